import PyProof.Rows.All
import Wide.All
import OpenK.AllK
import Wide.FinOn
import HandS.ForMost
import HandS.ForExc
import HandS.Flow
import HandS.Iter
import HandS.IsInst
import KE.DataEq
import KE.LtData
import HandS.ExcCtx
import HandS.HotCalls
import HandS.TupAny
import HandS.TupMul
import HandS.Codes
import KE.DataCmp
import HandS.Wide
import HandS.ExcInit
import HandS.ExcInitHot
import HandS.Comp
import HandS.Dict
import HandS.WordsDict
import HandS.More
import HandS.Words
import HandS.Defaults
import HandS.ClsMeth
import HandS.Star
import KE.SortData
import KE.KDictSum
import HandS.Text
import HandS.SetKeys
import KE.KDictPairs
import HandS.ExcIs
import KE.KExcIs
import HandS.ExcField
import HandS.RaiseMore
import HandS.Ends
import KE.GoesEnum
import PyProof.RulesMatch
import HandS.MakeKwOnly
import PySem.Challenge.RW_keptacross_k08_log_lines
set_option Elab.async false
set_option linter.all false
set_option maxRecDepth 100000
set_option maxHeartbeats 2000000
namespace Kp
open PySem L2

/-! ### plain values -/
inductive PV where
  | non | bl (b : Bool) | int (i : Int) | str (x : Str)
  | tup (xs : List PV) | lst (xs : List PV)
  | dct (kvs : List (PV × PV))
  | obj (c : Nat) (fs : List (Str × PV))
  | frl (ns : List Int)
  /-- a class or a def of the text's own top -/
  | glb (c : Nat)
  /-- a caught exception: its object, its dict, its class, its fields -/
  | xo (a d : Addr) (c : Nat) (fs : List (Str × PV))
  /-- an object of which nothing is told -/
  | raw (a : Addr)

def keyPV : Key → PV
  | .inl i => .int i
  | .inr x => .str x

/-- a tuple at a: its object has no dict of its own -/
def TupAt (K : PySem.W.Frag) (H : Hp) (a : Addr) (vs : List V) : Prop :=
  (∃ o : Obj, o.dict = none ∧ H a = some (.frz o (.tup vs))) ∨ ∃ (o : Obj) (its : Array Value) (n : Nat), K.lookup a = some o ∧ o.cls = .type "tuple" ∧ o.dict = none ∧ o.data = .seq its n ∧ its.size ≤ sizeLine ∧ Vals vs its.toList
mutual
inductive Rep (K : PySem.W.Frag) (cl : Nat → Addr) (H : Hp) : V → PV → Prop
  | non : Rep K cl H .non .non
  | bl (b : Bool) : Rep K cl H (.bl b) (.bl b)
  | int (i : Int) : Rep K cl H (.int i) (.int i)
  | str (x : Str) (h : x.length ≤ sizeLine) : Rep K cl H (.str x) (.str x)
  | frl {a : Addr} {ns : List Int} : SqL K H a (ns.map V.int) → Rep K cl H (.ref a) (.frl ns)
  | glb (c : Nat) : Rep K cl H (.ref (cl c)) (.glb c)
  | xo {a d : Addr} {c : Nat} {gs : List (Str × V)} {fs : List (Str × PV)} : H d = some (.xd gs) → RepF K cl H gs fs → Rep K cl H (.ref a) (.xo a d c fs)
  | raw (a : Addr) : Rep K cl H (.ref a) (.raw a)
  | tup {a : Addr} {vs : List V} {xs : List PV} : TupAt K H a vs → vs.length ≤ sizeLine → RepL K cl H vs xs → Rep K cl H (.ref a) (.tup xs)
  | lst {a : Addr} {vs : List V} {xs : List PV} : H a = some (.lst vs) → vs.length ≤ sizeLine → RepL K cl H vs xs → Rep K cl H (.ref a) (.lst xs)
  | dct {a : Addr} {gs : List (Key × V)} {kvs : List (PV × PV)} : H a = some (.dK gs) → RepK K cl H gs kvs → Rep K cl H (.ref a) (.dct kvs)
  | obj {a dx : Addr} {c : Nat} {gs : List (Str × V)} {fs : List (Str × PV)} : H a = some (.ins (cl c) dx gs) → RepF K cl H gs fs → Rep K cl H (.ref a) (.obj c fs)
inductive RepL (K : PySem.W.Frag) (cl : Nat → Addr) (H : Hp) : List V → List PV → Prop
  | nil : RepL K cl H [] []
  | cons {v : V} {vs : List V} {x : PV} {xs : List PV} : Rep K cl H v x → RepL K cl H vs xs → RepL K cl H (v :: vs) (x :: xs)
inductive RepF (K : PySem.W.Frag) (cl : Nat → Addr) (H : Hp) : List (Str × V) → List (Str × PV) → Prop
  | nil : RepF K cl H [] []
  | cons {f : Str} {v : V} {vs : List (Str × V)} {x : PV} {xs : List (Str × PV)} : Rep K cl H v x → RepF K cl H vs xs → RepF K cl H ((f, v) :: vs) ((f, x) :: xs)
inductive RepK (K : PySem.W.Frag) (cl : Nat → Addr) (H : Hp) : List (Key × V) → List (PV × PV) → Prop
  | nil : RepK K cl H [] []
  | cons {k : Key} {v : V} {vs : List (Key × V)} {x : PV} {xs : List (PV × PV)} : Rep K cl H v x → RepK K cl H vs xs → RepK K cl H ((k, v) :: vs) ((keyPV k, x) :: xs)
end

section
variable {K : PySem.W.Frag} {cl : Nat → Addr} {H H' : Hp}
theorem TupAt.mono {a : Addr} {xs : List V} (e : Same H H') (h : TupAt K H a xs) : TupAt K H' a xs := by
  rcases h with ⟨o, h1, h⟩ | h
  · exact .inl ⟨o, h1, e _ _ h⟩
  · exact .inr h
theorem TupAt.sq {a : Addr} {xs : List V} (h : TupAt K H a xs) : SqT K H a xs := by
  rcases h with ⟨o, h1, h⟩ | ⟨o, its, n, h1, h2, _, h3, h4, h5⟩
  · exact .inl (.inr ⟨o, h⟩)
  · exact .inr ⟨o, its, n, h1, h2, h3, h4, h5⟩
theorem sqt_mono {a : Addr} {xs : List V} (e : Same H H') (h : TupAt K H a xs) : SqT K H' a xs := (h.mono e).sq
theorem tupAt_new {p : Addr} {o : Obj} {xs : List V} (h : o.dict = none) : TupAt K (upd H p (.frz o (.tup xs))) p xs := .inl ⟨o, h, upd_same⟩
mutual
theorem Rep.mono (e : Same H H') : ∀ {v : V} {x : PV}, Rep K cl H v x → Rep K cl H' v x
  | _, _, .non => .non
  | _, _, .bl b => .bl b
  | _, _, .int i => .int i
  | _, _, .str x h => .str x h
  | _, _, .frl h => .frl (e.seq h)
  | _, _, .glb c => .glb c
  | _, _, .xo h hs => .xo (e _ _ h) (RepF.mono e hs)
  | _, _, .raw a => .raw a
  | _, _, .tup h z hs => .tup (h.mono e) z (RepL.mono e hs)
  | _, _, .lst h z hs => .lst (e _ _ h) z (RepL.mono e hs)
  | _, _, .dct h hs => .dct (e _ _ h) (RepK.mono e hs)
  | _, _, .obj h hs => .obj (e _ _ h) (RepF.mono e hs)
theorem RepL.mono (e : Same H H') : ∀ {vs : List V} {xs : List PV}, RepL K cl H vs xs → RepL K cl H' vs xs
  | _, _, .nil => .nil
  | _, _, .cons h hs => .cons (Rep.mono e h) (RepL.mono e hs)
theorem RepF.mono (e : Same H H') : ∀ {vs : List (Str × V)} {xs : List (Str × PV)}, RepF K cl H vs xs → RepF K cl H' vs xs
  | _, _, .nil => .nil
  | _, _, .cons h hs => .cons (Rep.mono e h) (RepF.mono e hs)
theorem RepK.mono (e : Same H H') : ∀ {vs : List (Key × V)} {xs : List (PV × PV)}, RepK K cl H vs xs → RepK K cl H' vs xs
  | _, _, .nil => .nil
  | _, _, .cons h hs => .cons (Rep.mono e h) (RepK.mono e hs)
end
theorem RepL.length : ∀ {vs : List V} {xs : List PV}, RepL K cl H vs xs → vs.length = xs.length
  | _, _, .nil => rfl
  | _, _, .cons _ hs => by rw [List.length_cons, List.length_cons, RepL.length hs]
theorem RepL.get : ∀ {vs : List V} {xs : List PV} {i : Nat} {x : PV}, RepL K cl H vs xs → xs[i]? = some x → ∃ v, vs[i]? = some v ∧ Rep K cl H v x
  | _, _, _, _, .nil, e => by simp at e
  | _, _, 0, _, .cons h _, e => by simp at e; subst e; exact ⟨_, rfl, h⟩
  | _, _, i + 1, _, .cons _ hs, e => by
    obtain ⟨v, e1, e2⟩ := RepL.get (i := i) hs (by simpa using e)
    exact ⟨v, by simpa using e1, e2⟩
theorem RepL.get' : ∀ {vs : List V} {xs : List PV} {i : Nat} {v : V}, RepL K cl H vs xs → vs[i]? = some v → ∃ x, xs[i]? = some x ∧ Rep K cl H v x
  | _, _, _, _, .nil, e => by simp at e
  | _, _, 0, _, .cons h _, e => by simp at e; subst e; exact ⟨_, rfl, h⟩
  | _, _, i + 1, _, .cons _ hs, e => by
    obtain ⟨v, e1, e2⟩ := RepL.get' (i := i) hs (by simpa using e)
    exact ⟨v, by simpa using e1, e2⟩
theorem RepL.append : ∀ {vs ws : List V} {xs ys : List PV}, RepL K cl H vs xs → RepL K cl H ws ys → RepL K cl H (vs ++ ws) (xs ++ ys)
  | _, _, _, _, .nil, h => h
  | _, _, _, _, .cons h hs, k => .cons h (RepL.append hs k)
theorem RepL.one {v : V} {x : PV} (h : Rep K cl H v x) : RepL K cl H [v] [x] := .cons h .nil
theorem RepL.take : ∀ {vs : List V} {xs : List PV} (n : Nat), RepL K cl H vs xs → RepL K cl H (vs.take n) (xs.take n)
  | _, _, 0, _ => .nil
  | _, _, _ + 1, .nil => .nil
  | _, _, n + 1, .cons h hs => .cons h (RepL.take n hs)
theorem RepL.drop : ∀ {vs : List V} {xs : List PV} (n : Nat), RepL K cl H vs xs → RepL K cl H (vs.drop n) (xs.drop n)
  | _, _, 0, h => h
  | _, _, _ + 1, .nil => .nil
  | _, _, n + 1, .cons _ hs => RepL.drop n hs
theorem RepL.set : ∀ {vs : List V} {xs : List PV} {v : V} {x : PV} (n : Nat), RepL K cl H vs xs → Rep K cl H v x → RepL K cl H (vs.set n v) (xs.set n x)
  | _, _, _, _, _, .nil, _ => .nil
  | _, _, _, _, 0, .cons _ hs, k => .cons k hs
  | _, _, _, _, n + 1, .cons h hs, k => .cons h (RepL.set n hs k)
theorem RepF.lookup : ∀ {vs : List (Str × V)} {xs : List (Str × PV)} {f : Str} {x : PV}, RepF K cl H vs xs → xs.lookup f = some x → ∃ v, vs.lookup f = some v ∧ Rep K cl H v x
  | _, _, _, _, .nil, e => by simp at e
  | _, _, f, x, .cons (f := g) (vs := vs) (xs := xs) h hs, e => by
    by_cases q : f == g
    · simp only [List.lookup, q] at e ⊢
      cases e
      exact ⟨_, rfl, h⟩
    · simp only [List.lookup, q] at e ⊢
      exact RepF.lookup hs e
theorem RepF.lookup_none : ∀ {vs : List (Str × V)} {xs : List (Str × PV)} {f : Str}, RepF K cl H vs xs → xs.lookup f = none → vs.lookup f = none
  | _, _, _, .nil, e => by simp
  | _, _, f, .cons (f := g) (vs := vs) (xs := xs) h hs, e => by
    by_cases q : f == g
    · simp only [List.lookup, q] at e
      cases e
    · simp only [List.lookup, q] at e ⊢
      exact RepF.lookup_none hs e
theorem RepF.length : ∀ {vs : List (Str × V)} {xs : List (Str × PV)}, RepF K cl H vs xs → vs.length = xs.length
  | _, _, .nil => rfl
  | _, _, .cons _ hs => by rw [List.length_cons, List.length_cons, RepF.length hs]
end

/-! ### stores -/
/-- a slot's content: a plain value; an own fresh object; an object that a caller handed in to be changed -/
inductive SV where
  | p (x : PV) | o (x : PV) | i (x : PV)
abbrev Sto := List (Option SV)
structure Fr where
  G0 : Hp
  H0 : Hp
  io : Nat → Option Addr
  /-- objects on the way of being made -/
  R : Addr → Option HO
/-- the present content of an object that may change -/
def OwnAt (K : PySem.W.Frag) (cl : Nat → Addr) (G H : Hp) (a : Addr) : PV → Prop
  | .lst xs => ∃ vs, H a = some (.lst vs) ∧ vs.length ≤ sizeLine ∧ RepL K cl G vs xs
  | .dct kvs => ∃ gs, H a = some (.dK gs) ∧ RepK K cl G gs kvs
  | .obj c fs => ∃ dx gs, H a = some (.ins (cl c) dx gs) ∧ RepF K cl G gs fs
  | _ => False
structure StOk (K : PySem.W.Frag) (cl : Nat → Addr) (F : Fr) (G H : Hp) (σ : L2.St) (S : Sto) : Prop where
  ex : Same G H
  ex0 : Same F.G0 G
  len : σ.length = S.length
  val : ∀ (i : Nat) (x : PV), S[i]? = some (some (.p x)) → ∃ v : V, σ[i]? = some (some v) ∧ Rep K cl G v x
  own : ∀ (i : Nat) (x : PV), S[i]? = some (some (.o x)) → ∃ a : Addr, σ[i]? = some (some (V.ref a)) ∧ G a = none ∧ F.H0 a = none ∧ OwnAt K cl G H a x
  inn : ∀ (i : Nat) (x : PV), S[i]? = some (some (.i x)) → ∃ a : Addr, σ[i]? = some (some (V.ref a)) ∧ G a = none ∧ F.io i = some a ∧ OwnAt K cl G H a x
  dist : ∀ (i j : Nat) (a : Addr) (x y : PV), S[i]? = some (some (.o x)) → S[j]? = some (some (.o y)) → σ[i]? = some (some (V.ref a)) → σ[j]? = some (some (V.ref a)) → i = j
  io : ∀ (i : Nat) (a : Addr), F.io i = some a → ∃ x, S[i]? = some (some (.i x))
  ioh : ∀ (i : Nat) (a : Addr), F.io i = some a → ∃ o, F.H0 a = some o
  iod : ∀ (i j : Nat) (a : Addr), F.io i = some a → F.io j = some a → i = j
  frame : ∀ (a : Addr) (o : HO), F.H0 a = some o → (∀ i, F.io i ≠ some a) → H a = some o
  gnew : ∀ (a : Addr) (o : HO), G a = some o → F.G0 a = some o ∨ F.H0 a = none
  rsv : ∀ (a : Addr) (o : HO), F.R a = some o → H a = some o ∧ G a = none ∧ F.H0 a = none ∧ ∀ (i : Nat) (x : PV), S[i]? = some (some (.o x)) → σ[i]? ≠ some (some (V.ref a))

theorem OwnAt.mono {K : PySem.W.Frag} {cl : Nat → Addr} {G G' H H' : Hp} {a : Addr} {x : PV} (e : Same G G') (h : H' a = H a) (q : OwnAt K cl G H a x) : OwnAt K cl G' H' a x := by
  cases x <;> try exact q
  · obtain ⟨vs, e1, z, r⟩ := q
    exact ⟨vs, h.trans e1, z, r.mono e⟩
  · obtain ⟨vs, e1, r⟩ := q
    exact ⟨vs, h.trans e1, r.mono e⟩
  · obtain ⟨dx, vs, e1, r⟩ := q
    exact ⟨dx, vs, h.trans e1, r.mono e⟩
theorem OwnAt.there {K : PySem.W.Frag} {cl : Nat → Addr} {G H : Hp} {a : Addr} {x : PV} (q : OwnAt K cl G H a x) : ∃ o, H a = some o := by
  cases x <;> try exact q.elim
  · obtain ⟨vs, e1, z, r⟩ := q
    exact ⟨_, e1⟩
  · obtain ⟨vs, e1, r⟩ := q
    exact ⟨_, e1⟩
  · obtain ⟨dx, vs, e1, r⟩ := q
    exact ⟨_, e1⟩
theorem same_new {H : Hp} {p : Addr} {o : HO} (h : H p = none) : Same H (upd H p o) := fun a u e => by
  rw [upd_ne (ne_of_none e h)]
  exact e
theorem same_upd {G H : Hp} {p : Addr} {o : HO} (e : Same G H) : Same (upd G p o) (upd H p o) := fun a u q => by
  by_cases z : a = p
  · subst z
    rw [upd_same] at q ⊢
    exact q
  · rw [upd_ne z] at q ⊢
    exact e a u q
theorem same_mut {G H : Hp} {p : Addr} {o : HO} (e : Same G H) (h : G p = none) : Same G (upd H p o) := fun a u q => by
  rw [upd_ne (ne_of_none q h)]
  exact e a u q

section
variable {K : PySem.W.Frag} {cl : Nat → Addr} {F : Fr} {G H : Hp} {σ : L2.St} {S : Sto} {p : Addr} {o : HO}
theorem StOk.free (k : StOk K cl F G H σ S) (h : H p = none) : G p = none := k.ex.free h
theorem StOk.free0 (k : StOk K cl F G H σ S) (h : H p = none) : F.H0 p = none := by
  cases q : F.H0 p with
  | none => rfl
  | some u =>
    have no : ∀ i, F.io i ≠ some p := fun i hi => by
      obtain ⟨x, hx⟩ := k.io i p hi
      obtain ⟨a, _, _, e, w⟩ := k.inn i x hx
      rw [hi] at e
      cases e
      obtain ⟨o, z⟩ := w.there
      rw [h] at z
      cases z
    rw [k.frame p u q no] at h
    cases h
/-- a new object, plain (in G) -/
theorem StOk.alloc (k : StOk K cl F G H σ S) (h : H p = none) : StOk K cl F (upd G p o) (upd H p o) σ S := by
  have hg := k.free h
  have h0 := k.free0 h
  have sg : Same G (upd G p o) := same_new hg
  have na : ∀ {a : Addr} {x : PV}, OwnAt K cl G H a x → a ≠ p := fun q z => by
    obtain ⟨o, e⟩ := q.there
    rw [z, h] at e
    cases e
  refine ⟨same_upd k.ex, k.ex0.trans sg, k.len, fun i x e => ?_, fun i x e => ?_, fun i x e => ?_, k.dist, k.io, k.ioh, k.iod, fun a u e n => ?_, fun a u e => ?_, fun a u e => ?_⟩
  · obtain ⟨v, e1, r⟩ := k.val i x e
    exact ⟨v, e1, r.mono sg⟩
  · obtain ⟨a, e1, ga, ha, q⟩ := k.own i x e
    exact ⟨a, e1, by rw [upd_ne (na q)]; exact ga, ha, q.mono sg (upd_ne (na q))⟩
  · obtain ⟨a, e1, ga, ha, q⟩ := k.inn i x e
    exact ⟨a, e1, by rw [upd_ne (na q)]; exact ga, ha, q.mono sg (upd_ne (na q))⟩
  · rw [upd_ne (fun z => by rw [z, h0] at e; cases e)]
    exact k.frame a u e n
  · by_cases z : a = p
    · rw [z]; exact .inr h0
    · rw [upd_ne z] at e
      exact k.gnew a u e
  · obtain ⟨r1, r2, r3, r4⟩ := k.rsv a u e
    have ne : a ≠ p := fun z => by rw [z, h] at r1; cases r1
    exact ⟨by rw [upd_ne ne]; exact r1, by rw [upd_ne ne]; exact r2, r3, r4⟩
/-- a new object, not in G -/
theorem StOk.allocO (k : StOk K cl F G H σ S) (h : H p = none) : StOk K cl F G (upd H p o) σ S := by
  have hg := k.free h
  have h0 := k.free0 h
  have na : ∀ {a : Addr} {x : PV}, OwnAt K cl G H a x → a ≠ p := fun q z => by
    obtain ⟨o, e⟩ := q.there
    rw [z, h] at e
    cases e
  refine ⟨same_mut k.ex hg, k.ex0, k.len, k.val, fun i x e => ?_, fun i x e => ?_, k.dist, k.io, k.ioh, k.iod, fun a u e n => ?_, k.gnew, fun a u e => ?_⟩
  · obtain ⟨a, e1, ga, ha, q⟩ := k.own i x e
    exact ⟨a, e1, ga, ha, q.mono (Same.refl _) (upd_ne (na q))⟩
  · obtain ⟨a, e1, ga, ha, q⟩ := k.inn i x e
    exact ⟨a, e1, ga, ha, q.mono (Same.refl _) (upd_ne (na q))⟩
  · rw [upd_ne (fun z => by rw [z, h0] at e; cases e)]
    exact k.frame a u e n
  · obtain ⟨r1, r2, r3, r4⟩ := k.rsv a u e
    have ne : a ≠ p := fun z => by rw [z, h] at r1; cases r1
    exact ⟨by rw [upd_ne ne]; exact r1, r2, r3, r4⟩
/-- an object that is in nobody's hands (not in G, in no slot, not of the entry) changes -/
theorem StOk.mutO (k : StOk K cl F G H σ S) (hg : G p = none) (h0 : F.H0 p = none) (hR : F.R p = none) (hn : ∀ (i : Nat) (x : PV), S[i]? = some (some (.o x)) → σ[i]? ≠ some (some (V.ref p))) : StOk K cl F G (upd H p o) σ S := by
  refine ⟨same_mut k.ex hg, k.ex0, k.len, k.val, fun i x e => ?_, fun i x e => ?_, k.dist, k.io, k.ioh, k.iod, fun a u e n => ?_, k.gnew, fun a u e => ?_⟩
  · obtain ⟨a, e1, ga, ha, q⟩ := k.own i x e
    have ne : a ≠ p := fun z => hn i x e (by rw [← z]; exact e1)
    exact ⟨a, e1, ga, ha, q.mono (Same.refl _) (upd_ne ne)⟩
  · obtain ⟨a, e1, ga, ha, q⟩ := k.inn i x e
    have ne : a ≠ p := fun z => by
      obtain ⟨u, hu⟩ := k.ioh i a ha
      rw [z, h0] at hu
      cases hu
    exact ⟨a, e1, ga, ha, q.mono (Same.refl _) (upd_ne ne)⟩
  · rw [upd_ne (fun z => by rw [z, h0] at e; cases e)]
    exact k.frame a u e n
  · obtain ⟨r1, r2, r3, r4⟩ := k.rsv a u e
    have ne : a ≠ p := fun z => by rw [z, hR] at e; cases e
    exact ⟨by rw [upd_ne ne]; exact r1, r2, r3, r4⟩
theorem set_get {α : Type} {l : List α} {i j : Nat} {x y : α} (h : (l.set i x)[j]? = some y) : (j = i ∧ y = x ∧ i < l.length) ∨ (j ≠ i ∧ l[j]? = some y) := by
  by_cases e : j = i
  · subst e
    by_cases z : j < l.length
    · rw [List.getElem?_set_self z] at h
      exact .inl ⟨rfl, (Option.some.inj h).symm, z⟩
    · rw [List.getElem?_eq_none (by rw [List.length_set]; omega)] at h
      cases h
  · rw [List.getElem?_set_ne (Ne.symm e)] at h
    exact .inr ⟨e, h⟩
/-- x = e, a plain value -/
theorem StOk.setp (k : StOk K cl F G H σ S) {i : Nat} {v : V} {x : PV} (r : Rep K cl G v x) (hi : F.io i = none) : StOk K cl F G H (σ.set i (some v)) (S.set i (some (.p x))) := by
  have up : ∀ {j : Nat} {y : SV}, j ≠ i → ∀ {w : Option V}, σ[j]? = some w → (σ.set i (some v))[j]? = some w := fun {j y} n {w} e => by rw [List.getElem?_set_ne (Ne.symm n)]; exact e
  have dn : ∀ {j : Nat}, j ≠ i → ∀ {w : Option V}, (σ.set i (some v))[j]? = some w → σ[j]? = some w := fun {j} n {w} e => by rw [List.getElem?_set_ne (Ne.symm n)] at e; exact e
  refine ⟨k.ex, k.ex0, by rw [List.length_set, List.length_set]; exact k.len, fun j y e => ?_, fun j y e => ?_, fun j y e => ?_, fun j l a y z e1 e2 e3 e4 => ?_, fun j a e => ?_, k.ioh, k.iod, k.frame, k.gnew, fun a u e => ?_⟩
  · rcases set_get e with ⟨rfl, q, lt⟩ | ⟨n, q⟩
    · cases q
      exact ⟨v, List.getElem?_set_self (by rw [k.len]; exact lt), r⟩
    · obtain ⟨u, e1, r1⟩ := k.val j y q
      exact ⟨u, up (y := .p y) n e1, r1⟩
  · rcases set_get e with ⟨rfl, q, lt⟩ | ⟨n, q⟩
    · cases q
    · obtain ⟨a, e1, r1⟩ := k.own j y q
      exact ⟨a, up (y := .p y) n e1, r1⟩
  · rcases set_get e with ⟨rfl, q, lt⟩ | ⟨n, q⟩
    · cases q
    · obtain ⟨a, e1, r1⟩ := k.inn j y q
      exact ⟨a, up (y := .p y) n e1, r1⟩
  · rcases set_get e1 with ⟨rfl, q, lt⟩ | ⟨n, q⟩
    · cases q
    · rcases set_get e2 with ⟨rfl, q2, lt⟩ | ⟨n2, q2⟩
      · cases q2
      · exact k.dist j l a y z q q2 (dn n e3) (dn n2 e4)
  · obtain ⟨x, hx⟩ := k.io j a e
    refine ⟨x, ?_⟩
    rw [List.getElem?_set_ne (fun z => by rw [← z, hi] at e; cases e)]
    exact hx
  · obtain ⟨r1, r2, r3, r4⟩ := k.rsv a u e
    refine ⟨r1, r2, r3, fun j y q z => ?_⟩
    rcases set_get q with ⟨rfl, q', lt⟩ | ⟨n, q'⟩
    · cases q'
    · exact r4 j y q' (dn n z)
/-- a slot is forgotten -/
theorem StOk.drop (k : StOk K cl F G H σ S) {i : Nat} {w : Option V} (hi : F.io i = none) : StOk K cl F G H (σ.set i w) (S.set i none) := by
  have up : ∀ {j : Nat}, j ≠ i → ∀ {u : Option V}, σ[j]? = some u → (σ.set i w)[j]? = some u := fun {j} n {u} e => by rw [List.getElem?_set_ne (Ne.symm n)]; exact e
  have dn : ∀ {j : Nat}, j ≠ i → ∀ {u : Option V}, (σ.set i w)[j]? = some u → σ[j]? = some u := fun {j} n {u} e => by rw [List.getElem?_set_ne (Ne.symm n)] at e; exact e
  refine ⟨k.ex, k.ex0, by rw [List.length_set, List.length_set]; exact k.len, fun j y e => ?_, fun j y e => ?_, fun j y e => ?_, fun j l a y z e1 e2 e3 e4 => ?_, fun j a e => ?_, k.ioh, k.iod, k.frame, k.gnew, fun a u e => ?_⟩
  · rcases set_get e with ⟨rfl, q, lt⟩ | ⟨n, q⟩
    · cases q
    · obtain ⟨u, e1, r1⟩ := k.val j y q
      exact ⟨u, up n e1, r1⟩
  · rcases set_get e with ⟨rfl, q, lt⟩ | ⟨n, q⟩
    · cases q
    · obtain ⟨a, e1, r1⟩ := k.own j y q
      exact ⟨a, up n e1, r1⟩
  · rcases set_get e with ⟨rfl, q, lt⟩ | ⟨n, q⟩
    · cases q
    · obtain ⟨a, e1, r1⟩ := k.inn j y q
      exact ⟨a, up n e1, r1⟩
  · rcases set_get e1 with ⟨rfl, q, lt⟩ | ⟨n, q⟩
    · cases q
    · rcases set_get e2 with ⟨rfl, q2, lt⟩ | ⟨n2, q2⟩
      · cases q2
      · exact k.dist j l a y z q q2 (dn n e3) (dn n2 e4)
  · obtain ⟨x, hx⟩ := k.io j a e
    refine ⟨x, ?_⟩
    rw [List.getElem?_set_ne (fun z => by rw [← z, hi] at e; cases e)]
    exact hx
  · obtain ⟨r1, r2, r3, r4⟩ := k.rsv a u e
    refine ⟨r1, r2, r3, fun j y q z => ?_⟩
    rcases set_get q with ⟨rfl, q', lt⟩ | ⟨n, q'⟩
    · cases q'
    · exact r4 j y q' (dn n z)
/-- x = a fresh object, which may change -/
theorem StOk.seto (k : StOk K cl F G H σ S) {i : Nat} {a : Addr} {x : PV} (hg : G a = none) (h0 : F.H0 a = none) (hR : F.R a = none) (hn : ∀ (j : Nat) (y : PV), S[j]? = some (some (.o y)) → σ[j]? ≠ some (some (V.ref a))) (q : OwnAt K cl G H a x) (hi : F.io i = none) :
    StOk K cl F G H (σ.set i (some (V.ref a))) (S.set i (some (.o x))) := by
  have up : ∀ {j : Nat}, j ≠ i → ∀ {u : Option V}, σ[j]? = some u → (σ.set i (some (V.ref a)))[j]? = some u := fun {j} n {u} e => by rw [List.getElem?_set_ne (Ne.symm n)]; exact e
  have dn : ∀ {j : Nat}, j ≠ i → ∀ {u : Option V}, (σ.set i (some (V.ref a)))[j]? = some u → σ[j]? = some u := fun {j} n {u} e => by rw [List.getElem?_set_ne (Ne.symm n)] at e; exact e
  have self : i < S.length → (σ.set i (some (V.ref a)))[i]? = some (some (V.ref a)) := fun lt => List.getElem?_set_self (by rw [k.len]; exact lt)
  refine ⟨k.ex, k.ex0, by rw [List.length_set, List.length_set]; exact k.len, fun j y e => ?_, fun j y e => ?_, fun j y e => ?_, fun j l b y z e1 e2 e3 e4 => ?_, fun j b e => ?_, k.ioh, k.iod, k.frame, k.gnew, fun b u e => ?_⟩
  · rcases set_get e with ⟨rfl, q, lt⟩ | ⟨n, q⟩
    · cases q
    · obtain ⟨u, e1, r1⟩ := k.val j y q
      exact ⟨u, up n e1, r1⟩
  · rcases set_get e with ⟨rfl, q', lt⟩ | ⟨n, q⟩
    · cases q'
      exact ⟨a, self lt, hg, h0, q⟩
    · obtain ⟨b, e1, r1⟩ := k.own j y q
      exact ⟨b, up n e1, r1⟩
  · rcases set_get e with ⟨rfl, q, lt⟩ | ⟨n, q⟩
    · cases q
    · obtain ⟨b, e1, r1⟩ := k.inn j y q
      exact ⟨b, up n e1, r1⟩
  · rcases set_get e1 with ⟨z1, q, lt⟩ | ⟨n, q⟩
    · subst z1
      rcases set_get e2 with ⟨z2, q2, lt2⟩ | ⟨n2, q2⟩
      · exact z2.symm
      · rw [self lt] at e3
        cases e3
        exact absurd (dn n2 e4) (hn l z q2)
    · rcases set_get e2 with ⟨z2, q2, lt⟩ | ⟨n2, q2⟩
      · subst z2
        rw [self lt] at e4
        cases e4
        exact absurd (dn n e3) (hn j y q)
      · exact k.dist j l b y z q q2 (dn n e3) (dn n2 e4)
  · obtain ⟨x, hx⟩ := k.io j b e
    refine ⟨x, ?_⟩
    rw [List.getElem?_set_ne (fun z => by rw [← z, hi] at e; cases e)]
    exact hx
  · obtain ⟨r1, r2, r3, r4⟩ := k.rsv b u e
    refine ⟨r1, r2, r3, fun j y q z => ?_⟩
    rcases set_get q with ⟨rfl, q', lt⟩ | ⟨n, q'⟩
    · rw [self lt] at z
      cases z
      rw [hR] at e
      cases e
    · exact r4 j y q' (dn n z)
/-- the own object of slot i changes -/
theorem StOk.chg (k : StOk K cl F G H σ S) {i : Nat} {a : Addr} {x y : PV} (hs : S[i]? = some (some (.o x))) (ha : σ[i]? = some (some (V.ref a))) (q : OwnAt K cl G (upd H a o) a y) : StOk K cl F G (upd H a o) σ (S.set i (some (.o y))) := by
  obtain ⟨a', e1, ga, h0, w⟩ := k.own i x hs
  rw [ha] at e1
  cases e1
  refine ⟨same_mut k.ex ga, k.ex0, by rw [List.length_set]; exact k.len, fun j z e => ?_, fun j z e => ?_, fun j z e => ?_, fun j l b y' z e1 e2 e3 e4 => ?_, fun j b e => ?_, k.ioh, k.iod, fun b u e n => ?_, k.gnew, fun b u e => ?_⟩
  · rcases set_get e with ⟨rfl, q, lt⟩ | ⟨n, q⟩
    · cases q
    · exact k.val j z q
  · rcases set_get e with ⟨rfl, q', lt⟩ | ⟨n, q'⟩
    · cases q'
      exact ⟨a, ha, ga, h0, q⟩
    · obtain ⟨b, e1, gb, hb, w'⟩ := k.own j z q'
      have ne : b ≠ a := fun zz => n (k.dist j i b z x q' hs e1 (by rw [zz]; exact ha))
      exact ⟨b, e1, gb, hb, w'.mono (Same.refl _) (upd_ne ne)⟩
  · rcases set_get e with ⟨rfl, q, lt⟩ | ⟨n, q'⟩
    · cases q
    · obtain ⟨b, e1, gb, hb, w'⟩ := k.inn j z q'
      have ne : b ≠ a := fun zz => by
        obtain ⟨u, hu⟩ := k.ioh j b hb
        rw [zz, h0] at hu
        cases hu
      exact ⟨b, e1, gb, hb, w'.mono (Same.refl _) (upd_ne ne)⟩
  · have hj : ∃ y0, S[j]? = some (some (.o y0)) := by
      rcases set_get e1 with ⟨rfl, q, lt⟩ | ⟨n, q⟩
      · exact ⟨x, hs⟩
      · exact ⟨_, q⟩
    have hl : ∃ y0, S[l]? = some (some (.o y0)) := by
      rcases set_get e2 with ⟨rfl, q, lt⟩ | ⟨n, q⟩
      · exact ⟨x, hs⟩
      · exact ⟨_, q⟩
    obtain ⟨y1, h1⟩ := hj
    obtain ⟨y2, h2⟩ := hl
    exact k.dist j l b y1 y2 h1 h2 e3 e4
  · obtain ⟨x', hx⟩ := k.io j b e
    refine ⟨x', ?_⟩
    rw [List.getElem?_set_ne (fun z => by rw [← z, hs] at hx; cases hx)]
    exact hx
  · rw [upd_ne (fun z => by rw [z, h0] at e; cases e)]
    exact k.frame b u e n
  · obtain ⟨r1, r2, r3, r4⟩ := k.rsv b u e
    have ne : b ≠ a := fun z => r4 i x hs (by rw [z]; exact ha)
    refine ⟨by rw [upd_ne ne]; exact r1, r2, r3, fun j y' q' z => ?_⟩
    rcases set_get q' with ⟨rfl, q2, lt⟩ | ⟨n, q2⟩
    · exact r4 j x hs z
    · exact r4 j y' q2 z
/-- the handed object of slot i changes -/
theorem StOk.chgi (k : StOk K cl F G H σ S) {i : Nat} {a : Addr} {x y : PV} (hs : S[i]? = some (some (.i x))) (ha : σ[i]? = some (some (V.ref a))) (q : OwnAt K cl G (upd H a o) a y) : StOk K cl F G (upd H a o) σ (S.set i (some (.i y))) := by
  obtain ⟨a', e1, ga, hio, w⟩ := k.inn i x hs
  rw [ha] at e1
  cases e1
  refine ⟨same_mut k.ex ga, k.ex0, by rw [List.length_set]; exact k.len, fun j z e => ?_, fun j z e => ?_, fun j z e => ?_, fun j l b y' z e1 e2 e3 e4 => ?_, fun j b e => ?_, k.ioh, k.iod, fun b u e n => ?_, k.gnew, fun b u e => ?_⟩
  · rcases set_get e with ⟨rfl, q, lt⟩ | ⟨n, q⟩
    · cases q
    · exact k.val j z q
  · rcases set_get e with ⟨rfl, q', lt⟩ | ⟨n, q'⟩
    · cases q'
    · obtain ⟨b, e1, gb, hb, w'⟩ := k.own j z q'
      have ne : b ≠ a := fun zz => by
        obtain ⟨u, hu⟩ := k.ioh i a hio
        rw [← zz, hb] at hu
        cases hu
      exact ⟨b, e1, gb, hb, w'.mono (Same.refl _) (upd_ne ne)⟩
  · rcases set_get e with ⟨rfl, q', lt⟩ | ⟨n, q'⟩
    · cases q'
      exact ⟨a, ha, ga, hio, q⟩
    · obtain ⟨b, e1, gb, hb, w'⟩ := k.inn j z q'
      have ne : b ≠ a := fun zz => n (k.iod j i b hb (by rw [zz]; exact hio))
      exact ⟨b, e1, gb, hb, w'.mono (Same.refl _) (upd_ne ne)⟩
  · rcases set_get e1 with ⟨rfl, q, lt⟩ | ⟨n, q1⟩
    · cases q
    · rcases set_get e2 with ⟨rfl, q, lt⟩ | ⟨n, q2⟩
      · cases q
      · exact k.dist j l b _ _ q1 q2 e3 e4
  · by_cases z : j = i
    · subst z
      exact ⟨y, List.getElem?_set_self ((List.getElem?_eq_some_iff.mp hs).1)⟩
    · obtain ⟨x', hx⟩ := k.io j b e
      exact ⟨x', by rw [List.getElem?_set_ne (Ne.symm z)]; exact hx⟩
  · rw [upd_ne (fun z => n i (by rw [z]; exact hio))]
    exact k.frame b u e n
  · obtain ⟨r1, r2, r3, r4⟩ := k.rsv b u e
    have ne : b ≠ a := fun z => by
      obtain ⟨u', hu⟩ := k.ioh i a hio
      rw [← z, r3] at hu
      cases hu
    refine ⟨by rw [upd_ne ne]; exact r1, r2, r3, fun j y' q' z => ?_⟩
    rcases set_get q' with ⟨rfl, q2, lt⟩ | ⟨n, q2⟩
    · cases q2
    · exact r4 j y' q2 z
/-- an own fresh object is plain from now on -/
theorem own_freeze {K : PySem.W.Frag} {cl : Nat → Addr} {G H : Hp} {a : Addr} {x : PV} (hg : G a = none) (q : OwnAt K cl G H a x) : ∃ o, H a = some o ∧ Rep K cl (upd G a o) (V.ref a) x := by
  have sg : ∀ o, Same G (upd G a o) := fun o => same_new hg
  cases x <;> try exact q.elim
  · obtain ⟨vs, e1, z, r⟩ := q
    exact ⟨_, e1, .lst upd_same z (r.mono (sg _))⟩
  · obtain ⟨vs, e1, r⟩ := q
    exact ⟨_, e1, .dct upd_same (r.mono (sg _))⟩
  · obtain ⟨dx, vs, e1, r⟩ := q
    exact ⟨_, e1, .obj upd_same (r.mono (sg _))⟩
theorem StOk.freeze (k : StOk K cl F G H σ S) {i : Nat} {x : PV} (hs : S[i]? = some (some (.o x))) : ∃ (a : Addr) (o : HO), σ[i]? = some (some (V.ref a)) ∧ Same G (upd G a o) ∧ Rep K cl (upd G a o) (V.ref a) x ∧ StOk K cl F (upd G a o) H σ (S.set i (some (.p x))) := by
  obtain ⟨a, ea, ga, h0, w⟩ := k.own i x hs
  obtain ⟨o, ho, r⟩ := own_freeze ga w
  have sg : Same G (upd G a o) := same_new ga
  refine ⟨a, o, ea, sg, r, fun b u e => ?_, k.ex0.trans sg, by rw [List.length_set]; exact k.len, fun j z e => ?_, fun j z e => ?_, fun j z e => ?_, fun j l b y' z e1 e2 e3 e4 => ?_, fun j b e => ?_, k.ioh, k.iod, k.frame, fun b u e => ?_, fun b u e => ?_⟩
  · by_cases z : b = a
    · subst z
      rw [upd_same] at e
      rw [← e]; exact ho
    · rw [upd_ne z] at e
      exact k.ex b u e
  · rcases set_get e with ⟨rfl, q, lt⟩ | ⟨n, q⟩
    · cases q
      exact ⟨_, ea, r⟩
    · obtain ⟨v, e1, r1⟩ := k.val j z q
      exact ⟨v, e1, r1.mono sg⟩
  · rcases set_get e with ⟨rfl, q', lt⟩ | ⟨n, q'⟩
    · cases q'
    · obtain ⟨b, e1, gb, hb, w'⟩ := k.own j z q'
      have ne : b ≠ a := fun zz => n (k.dist j i b z x q' hs e1 (by rw [zz]; exact ea))
      exact ⟨b, e1, by rw [upd_ne ne]; exact gb, hb, w'.mono sg rfl⟩
  · rcases set_get e with ⟨rfl, q, lt⟩ | ⟨n, q'⟩
    · cases q
    · obtain ⟨b, e1, gb, hb, w'⟩ := k.inn j z q'
      have ne : b ≠ a := fun zz => by
        obtain ⟨u, hu⟩ := k.ioh j b hb
        rw [zz, h0] at hu
        cases hu
      exact ⟨b, e1, by rw [upd_ne ne]; exact gb, hb, w'.mono sg rfl⟩
  · rcases set_get e1 with ⟨rfl, q, lt⟩ | ⟨n, q1⟩
    · cases q
    · rcases set_get e2 with ⟨rfl, q, lt⟩ | ⟨n, q2⟩
      · cases q
      · exact k.dist j l b _ _ q1 q2 e3 e4
  · obtain ⟨x', hx⟩ := k.io j b e
    refine ⟨x', ?_⟩
    rw [List.getElem?_set_ne (fun z => by rw [← z, hs] at hx; cases hx)]
    exact hx
  · by_cases z : b = a
    · rw [z]; exact .inr h0
    · rw [upd_ne z] at e
      exact k.gnew b u e
  · obtain ⟨r1, r2, r3, r4⟩ := k.rsv b u e
    have ne : b ≠ a := fun z => r4 i x hs (by rw [z]; exact ea)
    refine ⟨r1, by rw [upd_ne ne]; exact r2, r3, fun j y' q' z => ?_⟩
    rcases set_get q' with ⟨rfl, q2, lt⟩ | ⟨n, q2⟩
    · cases q2
    · exact r4 j y' q2 z
/-- a new object is reserved -/
theorem StOk.rsvNew (k : StOk K cl F G H σ S) (h : H p = none) (hs : ∀ (i : Nat) (x : PV), S[i]? = some (some (.o x)) → σ[i]? ≠ some (some (V.ref p))) : StOk K cl { F with R := fun b => if b = p then some o else F.R b } G (upd H p o) σ S := by
  have k' := k.allocO (o := o) h
  refine ⟨k'.ex, k'.ex0, k'.len, k'.val, k'.own, k'.inn, k'.dist, k'.io, k'.ioh, k'.iod, k'.frame, k'.gnew, fun a u e => ?_⟩
  dsimp only at e
  split at e
  · rename_i z
    cases e
    rw [z]
    exact ⟨upd_same, k.free h, k.free0 h, hs⟩
  · exact k'.rsv a u e
/-- .. changes -/
theorem StOk.rsvSet {o o' : HO} {R : Addr → Option HO} (k : StOk K cl { F with R := fun b => if b = p then some o else R b } G H σ S) : StOk K cl { F with R := fun b => if b = p then some o' else R b } G (upd H p o') σ S := by
  obtain ⟨r1, r2, r3, r4⟩ := k.rsv p o (if_pos rfl)
  have e1 : Same G (upd H p o') := same_mut k.ex r2
  have ne : ∀ {a : Addr} {x : PV} {i : Nat}, S[i]? = some (some (.o x)) → σ[i]? = some (some (V.ref a)) → a ≠ p := fun h1 h2 z => r4 _ _ h1 (by rw [← z]; exact h2)
  refine ⟨e1, k.ex0, k.len, k.val, fun i x e => ?_, fun i x e => ?_, k.dist, k.io, k.ioh, k.iod, fun a u e n => ?_, k.gnew, fun a u e => ?_⟩
  · obtain ⟨a, e1, ga, ha, q⟩ := k.own i x e
    exact ⟨a, e1, ga, ha, q.mono (Same.refl _) (upd_ne (ne e e1))⟩
  · obtain ⟨a, e1, ga, ha, q⟩ := k.inn i x e
    have ne : a ≠ p := fun z => by
      obtain ⟨u, hu⟩ := k.ioh i a ha
      rw [z] at hu
      have r3' : F.H0 p = none := r3
      have hu' : F.H0 p = some u := hu
      rw [r3'] at hu'
      cases hu'
    exact ⟨a, e1, ga, ha, q.mono (Same.refl _) (upd_ne ne)⟩
  · rw [upd_ne (fun z => by rw [z] at e; have r3' : F.H0 p = none := r3; have e' : F.H0 p = some u := e; rw [r3'] at e'; cases e')]
    exact k.frame a u e n
  · dsimp only at e
    split at e
    · rename_i z
      cases e
      rw [z]
      exact ⟨upd_same, r2, r3, r4⟩
    · rename_i z
      obtain ⟨s1, s2, s3, s4⟩ := k.rsv a u (by dsimp only; rw [if_neg z]; exact e)
      exact ⟨by rw [upd_ne z]; exact s1, s2, s3, s4⟩
/-- .. is plain from now on -/
theorem StOk.rsvEnd {o : HO} (k : StOk K cl { F with R := fun b => if b = p then some o else F.R b } G H σ S) (hR : F.R p = none) : StOk K cl F (upd G p o) H σ S ∧ G p = none := by
  obtain ⟨r1, r2, r3, r4⟩ := k.rsv p o (if_pos rfl)
  have sg : Same G (upd G p o) := same_new r2
  refine ⟨⟨fun b u e => ?_, k.ex0.trans sg, k.len, fun i x e => ?_, fun i x e => ?_, fun i x e => ?_, k.dist, k.io, k.ioh, k.iod, k.frame, fun a u e => ?_, fun a u e => ?_⟩, r2⟩
  · by_cases z : b = p
    · subst z
      rw [upd_same] at e
      rw [← e]
      exact r1
    · rw [upd_ne z] at e
      exact k.ex b u e
  · obtain ⟨v, e1, r⟩ := k.val i x e
    exact ⟨v, e1, r.mono sg⟩
  · obtain ⟨a, e1, ga, ha, q⟩ := k.own i x e
    have ne : a ≠ p := fun z => r4 _ _ e (by rw [← z]; exact e1)
    exact ⟨a, e1, by rw [upd_ne ne]; exact ga, ha, q.mono sg rfl⟩
  · obtain ⟨a, e1, ga, ha, q⟩ := k.inn i x e
    have ne : a ≠ p := fun z => by
      obtain ⟨u, hu⟩ := k.ioh i a ha
      rw [z] at hu
      have r3' : F.H0 p = none := r3
      have hu' : F.H0 p = some u := hu
      rw [r3'] at hu'
      cases hu'
    exact ⟨a, e1, by rw [upd_ne ne]; exact ga, ha, q.mono sg rfl⟩
  · by_cases z : a = p
    · rw [z]; exact .inr r3
    · rw [upd_ne z] at e
      exact k.gnew a u e
  · have ne : a ≠ p := fun z => by rw [z, hR] at e; cases e
    obtain ⟨s1, s2, s3, s4⟩ := k.rsv a u (by dsimp only; rw [if_neg ne]; exact e)
    exact ⟨s1, by rw [upd_ne ne]; exact s2, s3, s4⟩
/-- .. stays with the frame: a slot takes it -/
theorem StOk.rsvOwn {o : HO} (k : StOk K cl { F with R := fun b => if b = p then some o else F.R b } G H σ S) (hR : F.R p = none) : StOk K cl F G H σ S ∧ H p = some o ∧ G p = none ∧ F.H0 p = none ∧ ∀ (i : Nat) (x : PV), S[i]? = some (some (.o x)) → σ[i]? ≠ some (some (V.ref p)) := by
  obtain ⟨r1, r2, r3, r4⟩ := k.rsv p o (if_pos rfl)
  refine ⟨⟨k.ex, k.ex0, k.len, k.val, k.own, k.inn, k.dist, k.io, k.ioh, k.iod, k.frame, k.gnew, fun a u e => ?_⟩, r1, r2, r3, r4⟩
  have ne : a ≠ p := fun z => by rw [z, hR] at e; cases e
  exact k.rsv a u (by dsimp only; rw [if_neg ne]; exact e)
theorem StOk.rfree (k : StOk K cl F G H σ S) (h : H p = none) : F.R p = none := by
  cases q : F.R p with
  | none => rfl
  | some o =>
    have := (k.rsv p o q).1
    rw [h] at this
    cases this
end
end Kp
set_option Elab.async false
set_option linter.all false
set_option maxRecDepth 100000
set_option maxHeartbeats 2000000
namespace Kp
open PySem L2

/-! ### computations over stores -/
inductive Rs (α : Type) where
  | ok (x : α) (S : Sto) | ex (c : Nat) (fs : List (Str × PV)) (S : Sto)
abbrev M (α : Type) := Sto → Option (Rs α)
def ret {α : Type} (x : α) : M α := fun S => some (.ok x S)
def bnd {α β : Type} (m : M α) (k : α → M β) : M β := fun S => match m S with
  | some (.ok x S') => k x S'
  | some (.ex c fs S') => some (.ex c fs S')
  | none => none
def lift {α : Type} (x : Option α) : M α := fun S => match x with
  | some y => some (.ok y S)
  | none => none

/-- what is wanted where an exception leaves -/
def ExP (K : PySem.W.Frag) (cl : Nat → Addr) (F : Fr) (W : WX) (G : Hp) (σ : L2.St) (c : Nat) (fs : List (Str × PV)) (S' : Sto) : Prop :=
  ∀ (d : Addr) (gs : List (Str × V)) (G' H' : Hp), Same G G' → StOk K cl F G' H' σ S' → (H' d = some (.xd gs) ∧ F.H0 d = none ∧ F.R d = none) → RepF K cl G' gs fs → W (.ref (cl c)) (some d) σ H'
def Post {α β : Type} (K : PySem.W.Frag) (cl : Nat → Addr) (R : Hp → β → α → Prop) (F : Fr) (W : WX) (G : Hp) (σ : L2.St) (Q : β → Hp → Prop) : Rs α → Prop
  | .ok y S' => ∀ (v : β) (G' H' : Hp), Same G G' → StOk K cl F G' H' σ S' → R G' v y → Q v H'
  | .ex c fs S' => ExP K cl F W G σ c fs S'
def Does {α β : Type} (K : PySem.W.Frag) (cl : Nat → Addr) (W : WX) (R : Hp → β → α → Prop) (t : L2.St → Hp → (β → Hp → Prop) → Prop) (m : M α) : Prop :=
  ∀ (F : Fr) (G H : Hp) (σ : L2.St) (S : Sto) (r : Rs α) (Q : β → Hp → Prop), StOk K cl F G H σ S → m S = some r → Post K cl R F W G σ Q r → t σ H Q
abbrev RV (K : PySem.W.Frag) (cl : Nat → Addr) : Hp → V → PV → Prop := fun G v x => Rep K cl G v x
abbrev RL (K : PySem.W.Frag) (cl : Nat → Addr) : Hp → List V → List PV → Prop := fun G v x => RepL K cl G v x
abbrev RB : Hp → Bool → Bool → Prop := fun _ v x => v = x

def EM (X : Cx) (cl : Nat → Addr) (W : WX) (e : Expr) (m : M PV) : Prop := ∃ t, PE X e t ∧ Does X.K cl W (RV X.K cl) t m
def TM (X : Cx) (cl : Nat → Addr) (W : WX) (e : Expr) (m : M Bool) : Prop := ∃ t, PT X e t ∧ Does X.K cl W RB t m
def AM (X : Cx) (cl : Nat → Addr) (W : WX) (es : List Expr) (m : M (List PV)) : Prop := ∃ t, PA X es t ∧ Does X.K cl W (RL X.K cl) t m

section
variable {K : PySem.W.Frag} {cl : Nat → Addr} {F : Fr} {W : WX} {G G' H H' : Hp} {σ : L2.St} {S : Sto}
theorem ExP.mono {c : Nat} {fs : List (Str × PV)} {S' : Sto} (e : Same G G') (h : ExP K cl F W G σ c fs S') : ExP K cl F W G' σ c fs S' :=
  fun d gs G2 H2 s k x r => h d gs G2 H2 (e.trans s) k x r
theorem Post.mono {α β : Type} {R : Hp → β → α → Prop} {Q : β → Hp → Prop} {r : Rs α} (e : Same G G') (h : Post K cl R F W G σ Q r) : Post K cl R F W G' σ Q r := by
  cases r with
  | ok y S' => exact fun v G2 H2 s k x => h v G2 H2 (e.trans s) k x
  | ex c fs S' => exact ExP.mono e h
theorem Post.exp {α α' β β' : Type} {R : Hp → β → α → Prop} {R' : Hp → β' → α' → Prop} {Q : β → Hp → Prop} {Q' : β' → Hp → Prop} {c : Nat} {fs : List (Str × PV)} {S' : Sto} (h : Post K cl R F W G σ Q (.ex c fs S')) : Post K cl R' F W G σ Q' (.ex c fs S') := h
/-- first m1, then the rest -/
theorem Does.step {α β γ δ : Type} {R1 : Hp → β → α → Prop} {R2 : Hp → δ → γ → Prop} {t1 : L2.St → Hp → (β → Hp → Prop) → Prop} {m1 : M α} {k : α → M γ} {r : Rs γ} {Q1 : β → Hp → Prop} {Q2 : δ → Hp → Prop}
    (h1 : Does K cl W R1 t1 m1) (st : StOk K cl F G H σ S) (hm : bnd m1 k S = some r) (hp : Post K cl R2 F W G σ Q2 r)
    (hk : ∀ (y : α) (S1 : Sto) (v : β) (G1 H1 : Hp), k y S1 = some r → Same G G1 → StOk K cl F G1 H1 σ S1 → R1 G1 v y → Post K cl R2 F W G1 σ Q2 r → Q1 v H1) : t1 σ H Q1 := by
  unfold bnd at hm
  cases e : m1 S with
  | none =>
    rw [e] at hm
    cases hm
  | some r1 =>
    rw [e] at hm
    cases r1 with
    | ok y S1 =>
      refine h1 F G H σ S _ Q1 st e ?_
      exact fun v G1 H1 s k1 x => hk y S1 v G1 H1 hm s k1 x (hp.mono s)
    | ex c fs S1 =>
      have hm' : Rs.ex c fs S1 = r := Option.some.inj hm
      subst hm'
      exact h1 F G H σ S _ Q1 st e hp
theorem lift_bnd {α γ : Type} {x : Option α} {k : α → M γ} {r : Rs γ} (h : bnd (lift x) k S = some r) : ∃ y, x = some y ∧ k y S = some r := by
  unfold bnd Kp.lift at h
  cases x with
  | none => cases h
  | some y => exact ⟨y, rfl, h⟩
end

/-- the end of an operation: a value of the present heap, or one new object -/
def Res1 (K : PySem.W.Frag) (cl : Nat → Addr) (G H : Hp) (z : PV) (w : V) (H' : Hp) : Prop :=
  (H' = H ∧ Rep K cl G w z) ∨ ∃ (p : Addr) (o : HO), H p = none ∧ H' = upd H p o ∧ Rep K cl (upd G p o) w z
theorem StOk.res1 {K : PySem.W.Frag} {cl : Nat → Addr} {F : Fr} {G H H' : Hp} {σ : L2.St} {S : Sto} {z : PV} {w : V} (k : StOk K cl F G H σ S) (h : Res1 K cl G H z w H') : ∃ G', Same G G' ∧ StOk K cl F G' H' σ S ∧ Rep K cl G' w z := by
  rcases h with ⟨rfl, r⟩ | ⟨p, o, hp, rfl, r⟩
  · exact ⟨G, Same.refl _, k, r⟩
  · exact ⟨_, same_new (k.free hp), k.alloc hp, r⟩
theorem Post.res1 {K : PySem.W.Frag} {cl : Nat → Addr} {F : Fr} {W : WX} {G H H' : Hp} {σ : L2.St} {S : Sto} {Q : VK} {z : PV} {w : V} (h : Post K cl (RV K cl) F W G σ Q (.ok z S)) (k : StOk K cl F G H σ S) (q : Res1 K cl G H z w H') : Q w H' := by
  obtain ⟨G', s, k', r⟩ := k.res1 q
  exact h w G' H' s k' r

/-! ### names and constants -/
section
variable {X : Cx} {cl : Nat → Addr} {W : WX} {pos : Pos}
def mVar (i : Nat) : M PV := fun S => match S[i]? with
  | some (some (.p x)) => some (.ok x S)
  | some (some (.o x)) => some (.ok x (S.set i (some (.p x))))
  | _ => none
theorem em_pv {e : Expr} {i : Nat} (h : PE X e (tVar i)) : EM X cl W e (mVar i) := by
  refine ⟨_, h, fun F G H σ S r Q st hm hp => ?_⟩
  unfold mVar at hm
  split at hm
  · rename_i x e1
    cases hm
    obtain ⟨v, ev, rv⟩ := st.val _ _ e1
    exact ⟨v, ev, hp v G H (Same.refl _) st rv⟩
  · rename_i x e1
    cases hm
    obtain ⟨a, o, ea, sg, rp, st'⟩ := st.freeze e1
    exact ⟨_, ea, hp _ _ _ sg st' rp⟩
  · cases hm
def mK (x : PV) : M PV := ret x
theorem em_c {e : Expr} {v : V} {x : PV} (h : PE X e (tC v)) (r : ∀ K cl H, Rep K cl H v x) : EM X cl W e (mK x) := by
  refine ⟨_, h, fun F G H σ S r' Q st hm hp => ?_⟩
  cases hm
  exact hp v G H (Same.refl _) st (r _ _ _)
theorem em_int {i j} : EM X cl W (.Constant (.int i) j pos) (mK (.int i)) := em_c pe_int fun _ _ _ => .int _
theorem em_bl {b j} : EM X cl W (.Constant (.bool b) j pos) (mK (.bl b)) := em_c pe_bl fun _ _ _ => .bl _
theorem em_non {j} : EM X cl W (.Constant .none j pos) (mK .non) := em_c pe_non fun _ _ _ => .non
theorem em_str {x j} (h : x.length ≤ sizeLine := by decide) : EM X cl W (.Constant (.str x) j pos) (mK (.str x)) := em_c pe_str fun _ _ _ => .str _ h

/-! ### operations on two values -/
/-- an operation f computes g -/
def BinS (K : PySem.W.Frag) (cl : Nat → Addr) (r : R2) (g : PV → PV → Option PV) : Prop :=
  ∀ (G H : Hp) (v u : V) (x y z : PV) (Q : VK), Same G H → Rep K cl G v x → Rep K cl G u y → g x y = some z → (∀ w H', Res1 K cl G H z w H' → Q w H') → r v u H Q
def BinR (X : Cx) (cl : Nat → Addr) (f : Value → Value → Sem Value) (g : PV → PV → Option PV) : Prop := ∃ r : R2, OpR X f r ∧ BinS X.K cl r g
def mBin (g : PV → PV → Option PV) (ma mb : M PV) : M PV := bnd ma fun x => bnd mb fun y => lift (g x y)
theorem lift_eq {α : Type} {x : Option α} {S : Sto} {r : Rs α} (h : lift x S = some r) : ∃ y, x = some y ∧ r = .ok y S := by
  unfold lift at h
  cases x with
  | none => cases h
  | some y => exact ⟨y, rfl, (Option.some.inj h).symm⟩
theorem does_bin {g : PV → PV → Option PV} {r : R2} {ta tb : TE} {ma mb : M PV} (hr : BinS X.K cl r g) (h1 : Does X.K cl W (RV X.K cl) ta ma) (h2 : Does X.K cl W (RV X.K cl) tb mb) :
    Does X.K cl W (RV X.K cl) (tOp r ta tb) (mBin g ma mb) := by
  intro F G H σ S rr Q st hm hp
  refine h1.step st hm hp fun x S1 v G1 H1 hm1 s1 st1 rv hp1 => ?_
  refine h2.step st1 hm1 hp1 fun y S2 u G2 H2 hm2 s2 st2 ru hp2 => ?_
  obtain ⟨z, ez, rfl⟩ := lift_eq hm2
  exact hr G2 H2 v u x y z Q st2.ex (rv.mono s2) ru ez fun w H' q => hp2.res1 st2 q
theorem em_op {op : Operator} {a b : Expr} {g : PV → PV → Option PV} {ma mb : M PV} (hb : BinR X cl (binaryOp op) g) (ha : EM X cl W a ma) (hb' : EM X cl W b mb) : EM X cl W (.BinOp a op b pos) (mBin g ma mb) := by
  obtain ⟨ta, pa, da⟩ := ha
  obtain ⟨tb, pb, db⟩ := hb'
  obtain ⟨r, ho, hs⟩ := hb
  exact ⟨_, pe_op ho pa pb, does_bin hs da db⟩
theorem em_cmp {op : CmpOp} {a b : Expr} {g : PV → PV → Option PV} {ma mb : M PV} (hb : BinR X cl (compareOp op) g) (ha : EM X cl W a ma) (hb' : EM X cl W b mb) (hm : behindInMarks op b = false) : EM X cl W (.Compare a [op] [b] pos) (mBin g ma mb) := by
  obtain ⟨ta, pa, da⟩ := ha
  obtain ⟨tb, pb, db⟩ := hb'
  obtain ⟨r, ho, hs⟩ := hb
  exact ⟨_, pe_cmpR ho pa pb hm, does_bin hs da db⟩
/-- a value that is a bool -/
def asB : PV → M Bool
  | .bl b => ret b
  | _ => fun _ => none
def mTest (m : M PV) : M Bool := bnd m asB
theorem does_test {t : TE} {m : M PV} (d : Does X.K cl W (RV X.K cl) t m) : Does X.K cl W RB (tTest t) (mTest m) := by
  intro F G H σ S rr Q st hm hp
  refine d.step (R2 := RB) st hm hp fun y S1 v G1 H1 hm1 s1 st1 rv hp1 => ?_
  cases y <;> simp only [asB] at hm1 <;> try (cases hm1; done)
  cases hm1
  cases rv
  exact ⟨_, rfl, hp1 _ _ _ (Same.refl _) st1 rfl⟩
theorem tm_cmp {op : CmpOp} {a b : Expr} {g : PV → PV → Option PV} {ma mb : M PV} (hb : BinR X cl (compareOp op) g) (ha : EM X cl W a ma) (hb' : EM X cl W b mb) (hm : behindInMarks op b = false) : TM X cl W (.Compare a [op] [b] pos) (mTest (mBin g ma mb)) := by
  obtain ⟨ta, pa, da⟩ := ha
  obtain ⟨tb, pb, db⟩ := hb'
  obtain ⟨r, ho, hs⟩ := hb
  exact ⟨_, pt_cmpR ho pa pb hm, does_test (does_bin hs da db)⟩
end
end Kp
set_option Elab.async false
set_option linter.all false
set_option maxRecDepth 100000
set_option maxHeartbeats 2000000
namespace Kp
open PySem L2

/-! ### statements -/
inductive Fl where
  | nx | rt (y : PV) | bk | ct
def SPost (K : PySem.W.Frag) (cl : Nat → Addr) (F : Fr) (W : WX) (G : Hp) (D : Ends) : Rs Fl → Prop
  | .ok .nx S' => ∀ (σ' : L2.St) (G' H' : Hp), Same G G' → StOk K cl F G' H' σ' S' → D.nx σ' H'
  | .ok (.rt y) S' => ∀ (v : V) (σ' : L2.St) (G' H' : Hp), Same G G' → StOk K cl F G' H' σ' S' → Rep K cl G' v y → D.rt v H'
  | .ok .bk S' => ∀ (σ' : L2.St) (G' H' : Hp), Same G G' → StOk K cl F G' H' σ' S' → D.bk σ' H'
  | .ok .ct S' => ∀ (σ' : L2.St) (G' H' : Hp), Same G G' → StOk K cl F G' H' σ' S' → D.ct σ' H'
  | .ex c fs S' => ∀ (d : Addr) (gs : List (Str × V)) (σ' : L2.St) (G' H' : Hp), Same G G' → StOk K cl F G' H' σ' S' → (H' d = some (.xd gs) ∧ F.H0 d = none ∧ F.R d = none) → RepF K cl G' gs fs → W (.ref (cl c)) (some d) σ' H'
def DoesS (K : PySem.W.Frag) (cl : Nat → Addr) (W : WX) (t : TS) (m : M Fl) : Prop :=
  ∀ (F : Fr) (G H : Hp) (σ : L2.St) (S : Sto) (r : Rs Fl) (D : Ends), StOk K cl F G H σ S → m S = some r → SPost K cl F W G D r → t D σ H
def SM (X : Cx) (cl : Nat → Addr) (W : WX) (st : Stmt) (m : M Fl) : Prop := ∃ t, PS X st t ∧ DoesS X.K cl W t m
def SMs (X : Cx) (cl : Nat → Addr) (W : WX) (st : List Stmt) (m : M Fl) : Prop := ∃ t, PSs X st t ∧ DoesS X.K cl W t m
section
variable {K : PySem.W.Frag} {cl : Nat → Addr} {F : Fr} {W : WX} {G G' H H' : Hp} {σ : L2.St} {S : Sto} {D : Ends}
theorem SPost.mono {r : Rs Fl} (e : Same G G') (h : SPost K cl F W G D r) : SPost K cl F W G' D r := by
  cases r with
  | ok y S' => cases y with
    | nx => exact fun σ' G2 H2 s k => h σ' G2 H2 (e.trans s) k
    | rt y => exact fun v σ' G2 H2 s k r => h v σ' G2 H2 (e.trans s) k r
    | bk => exact fun σ' G2 H2 s k => h σ' G2 H2 (e.trans s) k
    | ct => exact fun σ' G2 H2 s k => h σ' G2 H2 (e.trans s) k
  | ex c fs S' => exact fun d gs σ' G2 H2 s k a b => h d gs σ' G2 H2 (e.trans s) k a b
/-- an expression in a statement -/
theorem Does.stepS {α β : Type} {R1 : Hp → β → α → Prop} {t1 : L2.St → Hp → (β → Hp → Prop) → Prop} {m1 : M α} {k : α → M Fl} {r : Rs Fl} {Q1 : β → Hp → Prop}
    (h1 : Does K cl W R1 t1 m1) (st : StOk K cl F G H σ S) (hm : bnd m1 k S = some r) (hp : SPost K cl F W G D r)
    (hk : ∀ (y : α) (S1 : Sto) (v : β) (G1 H1 : Hp), k y S1 = some r → Same G G1 → StOk K cl F G1 H1 σ S1 → R1 G1 v y → SPost K cl F W G1 D r → Q1 v H1) : t1 σ H Q1 := by
  unfold bnd at hm
  cases e : m1 S with
  | none =>
    rw [e] at hm
    cases hm
  | some r1 =>
    rw [e] at hm
    cases r1 with
    | ok y S1 =>
      refine h1 F G H σ S _ Q1 st e ?_
      exact fun v G1 H1 s k1 x => hk y S1 v G1 H1 hm s k1 x (hp.mono s)
    | ex c fs S1 =>
      have hm' : Rs.ex c fs S1 = r := Option.some.inj hm
      subst hm'
      exact h1 F G H σ S _ Q1 st e (fun d gs G' H' s k a b => hp d gs σ G' H' s k a b)
end
def mNx : M Fl := ret .nx
def mSeq (m u : M Fl) : M Fl := bnd m fun f => match f with
  | .nx => u
  | y => ret y
section
variable {X : Cx} {cl : Nat → Addr} {W : WX} {pos : Pos}
theorem sm_nil : SMs X cl W [] mNx := ⟨_, pss_nil, fun F G H σ S r D st hm hp => by
  cases hm
  exact hp σ G H (Same.refl _) st⟩
theorem does_seq {t u : TS} {m n : M Fl} (h1 : DoesS X.K cl W t m) (h2 : DoesS X.K cl W u n) : DoesS X.K cl W (tSeq t u) (mSeq m n) := by
  intro F G H σ S r D st hm hp
  unfold mSeq bnd at hm
  cases e : m S with
  | none =>
    rw [e] at hm
    cases hm
  | some r1 =>
    rw [e] at hm
    cases r1 with
    | ok y S1 =>
      cases y with
      | nx =>
        refine h1 F G H σ S _ _ st e ?_
        exact fun σ1 G1 H1 s k => h2 F G1 H1 σ1 S1 r D k hm (hp.mono s)
      | rt y =>
        have hm' : Rs.ok (Fl.rt y) S1 = r := Option.some.inj hm
        subst hm'
        exact h1 F G H σ S _ _ st e hp
      | bk =>
        have hm' : Rs.ok Fl.bk S1 = r := Option.some.inj hm
        subst hm'
        exact h1 F G H σ S _ _ st e hp
      | ct =>
        have hm' : Rs.ok Fl.ct S1 = r := Option.some.inj hm
        subst hm'
        exact h1 F G H σ S _ _ st e hp
    | ex c fs S1 =>
      have hm' : Rs.ex c fs S1 = r := Option.some.inj hm
      subst hm'
      exact h1 F G H σ S _ _ st e hp
theorem sm_cons {st : Stmt} {rest : List Stmt} {m n : M Fl} (h1 : SM X cl W st m) (h2 : SMs X cl W rest n) : SMs X cl W (st :: rest) (mSeq m n) := by
  obtain ⟨t, pt, dt⟩ := h1
  obtain ⟨u, pu, du⟩ := h2
  exact ⟨_, pss_cons pt pu, does_seq dt du⟩
theorem sm_one {st : Stmt} {m : M Fl} (h1 : SM X cl W st m) : SMs X cl W [st] m := by
  obtain ⟨t, pt, dt⟩ := h1
  exact ⟨_, pss_one pt, dt⟩
def mRet (m : M PV) : M Fl := bnd m fun x => ret (.rt x)
theorem sm_ret {e : Expr} {m : M PV} (h : EM X cl W e m) : SM X cl W (.Return (some e) pos) (mRet m) := by
  obtain ⟨t, p, d⟩ := h
  refine ⟨_, ps_ret p, fun F G H σ S r D st hm hp => ?_⟩
  refine d.stepS st hm hp fun y S1 v G1 H1 hm1 s1 st1 rv hp1 => ?_
  cases hm1
  exact hp1 v σ G1 H1 (Same.refl _) st1 rv
def mRetN : M Fl := ret (.rt .non)
theorem sm_retN : SM X cl W (.Return none pos) mRetN := ⟨_, ps_retN, fun F G H σ S r D st hm hp => by
  cases hm
  exact hp .non σ G H (Same.refl _) st .non⟩
theorem sm_pass : SM X cl W (.Pass pos) mNx := ⟨_, ps_pass, fun F G H σ S r D st hm hp => by
  cases hm
  exact hp σ G H (Same.refl _) st⟩
theorem sm_break : SM X cl W (.Break pos) (ret .bk) := ⟨_, ps_break, fun F G H σ S r D st hm hp => by
  cases hm
  exact hp σ G H (Same.refl _) st⟩
theorem sm_continue : SM X cl W (.Continue pos) (ret .ct) := ⟨_, ps_continue, fun F G H σ S r D st hm hp => by
  cases hm
  exact hp σ G H (Same.refl _) st⟩
def mDrop (m : M PV) : M Fl := bnd m fun _ => ret .nx
theorem sm_expr {e : Expr} {m : M PV} (h : EM X cl W e m) (hs : swapsWith e none pos.line X.env = pure false := by rfl) : SM X cl W (.Expr e pos) (mDrop m) := by
  obtain ⟨t, p, d⟩ := h
  refine ⟨_, ps_expr p hs, fun F G H σ S r D st hm hp => ?_⟩
  refine d.stepS st hm hp fun y S1 v G1 H1 hm1 s1 st1 rv hp1 => ?_
  cases hm1
  exact hp1 σ G1 H1 (Same.refl _) st1
def mIf (c : M Bool) (m n : M Fl) : M Fl := bnd c fun b => if b = true then m else n
theorem sm_if {c : Expr} {a b : List Stmt} {mc : M Bool} {m n : M Fl} (hc : TM X cl W c mc) (ha : SMs X cl W a m) (hb : SMs X cl W b n) : SM X cl W (.If c a b pos) (mIf mc m n) := by
  obtain ⟨tc, pc, dc⟩ := hc
  obtain ⟨ta, pa, da⟩ := ha
  obtain ⟨tb, pb, db⟩ := hb
  refine ⟨_, ps_if pc pa pb, fun F G H σ S r D st hm hp => ?_⟩
  refine dc.stepS st hm hp fun y S1 v G1 H1 hm1 s1 st1 rv hp1 => ?_
  cases rv
  cases y with
  | true => exact da F G1 H1 σ S1 r D st1 hm1 hp1
  | false => exact db F G1 H1 σ S1 r D st1 hm1 hp1
/-- a slot takes a plain value; one that a caller handed in stays -/
def put (i : Nat) (x : PV) : M Unit := fun S => match S[i]? with
  | some (some (.i _)) => none
  | none => none
  | _ => some (.ok () (S.set i (some (.p x))))
theorem io_none {K : PySem.W.Frag} {F : Fr} {G H : Hp} {σ : L2.St} {S : Sto} {i : Nat} (st : StOk K cl F G H σ S) (h : ∀ x, S[i]? ≠ some (some (.i x))) : F.io i = none := by
  cases q : F.io i with
  | none => rfl
  | some a =>
    obtain ⟨x, hx⟩ := st.io i a q
    exact absurd hx (h x)
theorem put_ok {K : PySem.W.Frag} {F : Fr} {G H : Hp} {σ : L2.St} {S S' : Sto} {i : Nat} {v : V} {x : PV} {u : Unit} (st : StOk K cl F G H σ S) (h : put i x S = some (.ok u S')) (r : Rep K cl G v x) : StOk K cl F G H (σ.set i (some v)) S' := by
  unfold put at h
  split at h
  · cases h
  · cases h
  · rename_i n1 n2
    cases h
    exact st.setp r (io_none st n1)
theorem put_ex {S S' : Sto} {i : Nat} {x : PV} {c fs} : put i x S ≠ some (.ex c fs S') := by
  intro h
  unfold put at h
  split at h <;> cases h
def mSet (i : Nat) (m : M PV) : M Fl := bnd m fun x => bnd (put i x) fun _ => ret .nx
theorem bnd_put {i : Nat} {x : PV} {S : Sto} {k : Unit → M Fl} {r : Rs Fl} (h : bnd (put i x) k S = some r) : ∃ S', put i x S = some (.ok () S') ∧ k () S' = some r := by
  unfold bnd at h
  cases e : put i x S with
  | none => rw [e] at h; cases h
  | some r1 =>
    rw [e] at h
    cases r1 with
    | ok y S1 => exact ⟨S1, rfl, h⟩
    | ex c fs S1 => exact absurd e put_ex
theorem sm_set {i : Nat} {x : Str} {e : Expr} {m : M PV} {pos' : Pos} (hN : X.N.Nodup) (hi : X.N[i]? = some x) (hx : Loc X.env.scope x) (h : EM X cl W e m) (hs : swapsWith e (some (.Name x pos')) pos.line X.env = pure false := by rfl)
    (hf : X.fn x = true ∨ X.env.scope.names.lookup x = some .local := by first | exact .inl rfl | exact .inr rfl | assumption) : SM X cl W (.Assign [.Name x pos'] e pos) (mSet i m) := by
  obtain ⟨t, p, d⟩ := h
  refine ⟨_, ps_set hN hi hx p hs hf, fun F G H σ S r D st hm hp => ?_⟩
  refine d.stepS st hm hp fun y S1 v G1 H1 hm1 s1 st1 rv hp1 => ?_
  obtain ⟨S2, h2, h3⟩ := bnd_put hm1
  cases h3
  exact hp1 _ G1 H1 (Same.refl _) (put_ok st1 h2 rv)
end

/-! ### for -/
/-- what a loop walks: the items are ys, they may be made on the way -/
def Walks (K : PySem.W.Frag) (cl : Nat → Addr) (J : It) (G : Hp) (ys : List PV) : Prop :=
  ∀ (i : Nat) (G2 H2 : Hp), Same G G2 → Same G2 H2 → (∀ y, ys[i]? = some y → J.go i H2 ∧ ∀ x H3, J.yld i H2 x H3 → Res1 K cl G2 H2 y x H3) ∧ (ys.length ≤ i → J.stop i H2)
/-- an iterable gives the items -/
def DoesI (K : PySem.W.Frag) (cl : Nat → Addr) (W : WX) (t : TI) (m : M (List PV)) : Prop :=
  ∀ (F : Fr) (G H : Hp) (σ : L2.St) (S : Sto) (ys : List PV) (S' : Sto) (R : It → Hp → Prop), StOk K cl F G H σ S → m S = some (.ok ys S') →
    (∀ (J : It) (G' H' : Hp), Same G G' → StOk K cl F G' H' σ S' → Walks K cl J G' ys → R J H') → t σ H R
def IM (X : Cx) (cl : Nat → Addr) (W : WX) (tg iter : Expr) (m : M (List PV)) : Prop := ∃ t, PI X tg iter t ∧ DoesI X.K cl W t m
/-- a target takes an item -/
def DoesG (K : PySem.W.Frag) (cl : Nat → Addr) (t : TG) (g : PV → Sto → Option Sto) : Prop :=
  ∀ (F : Fr) (G H : Hp) (σ : L2.St) (S S' : Sto) (v : V) (y : PV) (Q : L2.St → Hp → Prop), StOk K cl F G H σ S → Rep K cl G v y → g y S = some S' →
    (∀ σ', StOk K cl F G H σ' S' → Q σ' H) → t v σ H Q
def GM (X : Cx) (cl : Nat → Addr) (tg : Expr) (g : PV → Sto → Option Sto) : Prop := ∃ t, PG X tg t ∧ DoesG X.K cl t g
def loop (g : PV → Sto → Option Sto) (m : M Fl) : List PV → M Fl
  | [] => ret .nx
  | y :: ys => fun S => match g y S with
    | none => none
    | some S1 => match m S1 with
      | none => none
      | some (.ok .nx S2) => loop g m ys S2
      | some (.ok .ct S2) => loop g m ys S2
      | some (.ok .bk S2) => some (.ok .nx S2)
      | some r => some r
def mFor (mi : M (List PV)) (g : PV → Sto → Option Sto) (m : M Fl) : M Fl := fun S => match mi S with
  | some (.ok ys S') => loop g m ys S'
  | _ => none
section
variable {X : Cx} {cl : Nat → Addr} {W : WX} {pos : Pos}
theorem does_for {wi : TI} {tg : TG} {tb : TS} {mi : M (List PV)} {g : PV → Sto → Option Sto} {m : M Fl} (hi : DoesI X.K cl W wi mi) (hg : DoesG X.K cl tg g) (hb : DoesS X.K cl W tb m) : DoesS X.K cl W (tFor wi tg tb) (mFor mi g m) := by
  intro F G H σ S r D st hm hp
  unfold mFor at hm
  split at hm <;> try (cases hm; done)
  rename_i ys S1 e1
  refine hi F G H σ S ys S1 _ st e1 fun J G1 H1 s1 st1 hw => ?_
  refine ⟨fun i n σ' H' => n + i = ys.length ∧ ∃ G' S', Same G1 G' ∧ StOk X.K cl F G' H' σ' S' ∧ loop g m (ys.drop i) S' = some r, ⟨ys.length, Nat.add_zero _, G1, S1, Same.refl _, st1, hm⟩, ?_⟩
  rintro i n σ' H' ⟨hn, G', S', s', st', hl⟩
  obtain ⟨hgo, hstop⟩ := hw i G' H' s' st'.ex
  have sG : Same G G' := s1.trans s'
  cases e : ys[i]? with
  | none =>
    have hle : ys.length ≤ i := List.getElem?_eq_none_iff.mp e
    refine .inl ⟨hstop hle, ?_⟩
    rw [List.drop_eq_nil_of_le hle] at hl
    cases hl
    exact hp σ' G' H' sG st'
  | some y =>
    obtain ⟨hlt, _⟩ := List.getElem?_eq_some_iff.mp e
    have hd : ys.drop i = y :: ys.drop (i + 1) := by
      rw [List.drop_eq_getElem_cons hlt]
      have : ys[i] = y := by
        have := List.getElem?_eq_getElem hlt
        rw [e] at this
        exact (Option.some.inj this).symm
      rw [this]
    rw [hd] at hl
    unfold loop at hl
    cases eg : g y S' with
    | none => rw [eg] at hl; cases hl
    | some S2 =>
      rw [eg] at hl
      replace hl : (match m S2 with
        | none => none
        | some (.ok .nx S2) => loop g m (ys.drop (i + 1)) S2
        | some (.ok .ct S2) => loop g m (ys.drop (i + 1)) S2
        | some (.ok .bk S2) => some (.ok .nx S2)
        | some r => some r) = some r := hl
      obtain ⟨go, hy⟩ := hgo y e
      refine .inr ⟨go, fun σ3 H3 => (n - 1) + (i + 1) = ys.length ∧ ∃ G' S', Same G1 G' ∧ StOk X.K cl F G' H3 σ3 S' ∧ loop g m (ys.drop (i + 1)) S' = some r, fun σ3 H3 q => ⟨n - 1, by omega, q⟩, fun x H3 hx => ?_⟩
      obtain ⟨G3, s3, st3, r3⟩ := st'.res1 (hy x H3 hx)
      refine hg F G3 H3 σ' S' S2 x y _ st3 r3 eg fun σ4 st4 => ?_
      cases em : m S2 with
      | none => rw [em] at hl; cases hl
      | some rr =>
        rw [em] at hl
        refine hb F G3 H3 σ4 S2 _ _ st4 em ?_
        cases rr with
        | ok f S5 =>
          cases f with
          | nx => exact fun σ5 G5 H5 s5 st5 => ⟨by omega, G5, S5, (s'.trans s3).trans s5, st5, hl⟩
          | ct => exact fun σ5 G5 H5 s5 st5 => ⟨by omega, G5, S5, (s'.trans s3).trans s5, st5, hl⟩
          | bk =>
            cases hl
            exact fun σ5 G5 H5 s5 st5 => hp σ5 G5 H5 ((sG.trans s3).trans s5) st5
          | rt y =>
            cases hl
            exact fun v σ5 G5 H5 s5 st5 r5 => hp v σ5 G5 H5 ((sG.trans s3).trans s5) st5 r5
        | ex c fs S5 =>
          cases hl
          exact fun d gs σ5 G5 H5 s5 st5 a b => hp d gs σ5 G5 H5 ((sG.trans s3).trans s5) st5 a b
theorem sm_for {tg iter : Expr} {body : List Stmt} {mi : M (List PV)} {g : PV → Sto → Option Sto} {m : M Fl} (hp : PassesOwn (model X.prog X.w) X.A X.env X.xe) (hc : X.calm = true) (hi : IM X cl W tg iter mi) (hg : GM X cl tg g) (hb : SMs X cl W body m)
    (hs : ∀ x, foldedSetIterable iter X.env x = pure x := by intro _; rfl) : SM X cl W (.For tg iter body [] pos) (mFor mi g m) := by
  obtain ⟨wi, pi, di⟩ := hi
  obtain ⟨t, pg, dg⟩ := hg
  obtain ⟨tb, pb, db⟩ := hb
  exact ⟨_, ps_for hp hc pi pg pb hs, does_for di dg db⟩
/-- the target a name -/
def gN (i : Nat) : PV → Sto → Option Sto := fun y S => match put i y S with
  | some (.ok _ S') => some S'
  | _ => none
theorem gm_name {i : Nat} {x : Str} (hN : X.N.Nodup) (hi : X.N[i]? = some x) (hx : Loc X.env.scope x) (hf : X.fn x = true ∨ X.env.scope.names.lookup x = some .local := by first | exact .inl rfl | exact .inr rfl | assumption) : GM X cl (.Name x pos) (gN i) := by
  refine ⟨_, pg_name hN hi hx hf, fun F G H σ S S' v y Q st r h k => ?_⟩
  unfold gN at h
  split at h
  · rename_i u S2 e
    cases h
    exact k _ (put_ok st e r)
  · cases h
/-- over a list, a tuple -/
def mIter (m : M PV) : M (List PV) := bnd m fun x => match x with
  | .lst xs => ret xs
  | .frl ns => ret (ns.map PV.int)
  | _ => fun _ => none
def mIterT (m : M PV) : M (List PV) := bnd m fun x => match x with
  | .tup xs => ret xs
  | _ => fun _ => none
theorem bnd_some {α β : Type} {m : M α} {k : α → M β} {S : Sto} {r : Rs β} (h : bnd m k S = some r) : (∃ x S1, m S = some (.ok x S1) ∧ k x S1 = some r) ∨ ∃ c fs S1, m S = some (.ex c fs S1) ∧ r = .ex c fs S1 := by
  unfold bnd at h
  split at h
  · rename_i x S1 e
    exact .inl ⟨x, S1, e, h⟩
  · rename_i c fs S1 e
    exact .inr ⟨c, fs, S1, e, (Option.some.inj h).symm⟩
  · cases h
theorem walks_list {G : Hp} {a : Addr} {vs : List V} {ys : List PV} (h : SqL X.K G a vs) (r : RepL X.K cl G vs ys) : Walks X.K cl (Itl X.K a) G ys := by
  intro i G2 H2 s1 s2
  have q : SqL X.K H2 a vs := s2.seq (s1.seq h)
  refine ⟨fun y e => ?_, fun e => ⟨vs, q, by rw [r.length]; exact e⟩⟩
  obtain ⟨v, ev, rv⟩ := r.get e
  refine ⟨⟨vs, v, q, ev⟩, fun x H3 hy => ?_⟩
  obtain ⟨e3, hy⟩ := hy
  have ex := hy vs q
  rw [ev] at ex
  cases ex
  exact .inl ⟨e3, rv.mono s1⟩
theorem walks_tup {G : Hp} {a : Addr} {vs : List V} {ys : List PV} (h : TupAt X.K G a vs) (r : RepL X.K cl G vs ys) : Walks X.K cl (Itt X.K a) G ys := by
  intro i G2 H2 s1 s2
  have q : SqT X.K H2 a vs := sqt_mono (s1.trans s2) h
  refine ⟨fun y e => ?_, fun e => ⟨vs, q, by rw [r.length]; exact e⟩⟩
  obtain ⟨v, ev, rv⟩ := r.get e
  refine ⟨⟨vs, v, q, ev⟩, fun x H3 hy => ?_⟩
  obtain ⟨e3, hy⟩ := hy
  have ex := hy vs q
  rw [ev] at ex
  cases ex
  exact .inl ⟨e3, rv.mono s1⟩
theorem repL_ints {K : PySem.W.Frag} {G : Hp} : ∀ ns : List Int, RepL K cl G (ns.map V.int) (ns.map PV.int)
  | [] => .nil
  | n :: ns => .cons (.int n) (repL_ints ns)
theorem im_list {tg l : Expr} {m : M PV} (h : EM X cl W l m) : IM X cl W tg l (mIter m) := by
  obtain ⟨t, p, d⟩ := h
  refine ⟨_, pi_list p, fun F G H σ S ys S' R st hm k => ?_⟩
  rcases bnd_some hm with ⟨x, S1, e1, e2⟩ | ⟨c, fs, S1, _, e2⟩
  · cases x <;> try (cases e2; done)
    · cases e2
      refine d F G H σ S _ _ st e1 fun v G1 H1 s1 st1 rv => ?_
      cases rv with
      | lst hs hz hr => exact ⟨_, rfl, ⟨_, .inl (.inl (st1.ex _ _ hs))⟩, k _ G1 H1 s1 st1 (walks_list (.inl (.inl hs)) hr)⟩
    · cases e2
      refine d F G H σ S _ _ st e1 fun v G1 H1 s1 st1 rv => ?_
      cases rv with
      | frl hs => exact ⟨_, rfl, ⟨_, st1.ex.seq hs⟩, k _ G1 H1 s1 st1 (walks_list hs (repL_ints _))⟩
  · cases e2
theorem im_tup {tg l : Expr} {m : M PV} (h : EM X cl W l m) : IM X cl W tg l (mIterT m) := by
  obtain ⟨t, p, d⟩ := h
  refine ⟨_, pi_tup p, fun F G H σ S ys S' R st hm k => ?_⟩
  rcases bnd_some hm with ⟨x, S1, e1, e2⟩ | ⟨c, fs, S1, _, e2⟩
  · cases x <;> try (cases e2; done)
    cases e2
    refine d F G H σ S _ _ st e1 fun v G1 H1 s1 st1 rv => ?_
    cases rv with
    | tup hs hz hr => exact ⟨_, rfl, ⟨_, sqt_mono st1.ex hs⟩, k _ G1 H1 s1 st1 (walks_tup hs hr)⟩
  · cases e2
end
end Kp
set_option Elab.async false
set_option linter.all false
set_option maxRecDepth 100000
set_option maxHeartbeats 2000000
namespace Kp
open PySem PyProof.Rows L2

/-! ### what a def promises -/
inductive RO where
  | ret (y : PV) | exc (c : Nat) (fs : List (Str × PV))
/-- the heap behind a call that changed nothing that stood -/
structure Grown (G H G' H' : Hp) : Prop where
  g : Same G G'
  gh : Same G' H'
  h : Same H H'
  new : ∀ (a : Addr) (o : HO), G' a = some o → G a = some o ∨ H a = none
/-- behind a call that changed the object at a alone -/
structure GrownI (a : Addr) (G H G' H' : Hp) : Prop where
  g : Same G G'
  gh : Same G' H'
  h : ∀ (b : Addr) (o : HO), b ≠ a → H b = some o → H' b = some o
  new : ∀ (a : Addr) (o : HO), G' a = some o → G a = some o ∨ H a = none
def spP (K : PySem.W.Frag) (cl : Nat → Addr) (n : Nat) (f : List PV → Option RO) : Sp := fun vs H Q E => vs.length = n ∧ ∃ (G : Hp) (xs : List PV) (r : RO), Same G H ∧ RepL K cl G vs xs ∧ f xs = some r ∧
  match r with
  | .ret y => ∀ (v : V) (G' H' : Hp), Grown G H G' H' → Rep K cl G' v y → Q v H'
  | .exc c fs => ∀ (d : Addr) (gs : List (Str × V)) (G' H' : Hp), Grown G H G' H' → (H' d = some (.xd gs) ∧ H d = none) → RepF K cl G' gs fs → E (.ref (cl c)) (some d) H'
/-- the first parameter is changed -/
def spI (K : PySem.W.Frag) (cl : Nat → Addr) (n : Nat) (f : PV → List PV → Option (PV × RO)) : Sp := fun vs H Q E => vs.length = n ∧ ∃ (a : Addr) (ws : List V) (G : Hp) (x x' : PV) (xs : List PV) (r : RO), vs = .ref a :: ws ∧ Same G H ∧ G a = none ∧
  OwnAt K cl G H a x ∧ RepL K cl G ws xs ∧ f x xs = some (x', r) ∧
  match r with
  | .ret y => ∀ (v : V) (G' H' : Hp), GrownI a G H G' H' → OwnAt K cl G' H' a x' → Rep K cl G' v y → Q v H'
  | .exc c fs => ∀ (d : Addr) (gs : List (Str × V)) (G' H' : Hp), GrownI a G H G' H' → OwnAt K cl G' H' a x' → (H' d = some (.xd gs) ∧ H d = none) → RepF K cl G' gs fs → E (.ref (cl c)) (some d) H'
def stoP (N : Nat) (xs : List PV) : Sto := xs.map (fun x => some (.p x)) ++ List.replicate (N - xs.length) none
def endP : Option (Rs Fl) → Option RO
  | some (.ok .nx _) => some (.ret .non)
  | some (.ok (.rt y) _) => some (.ret y)
  | some (.ex c fs _) => some (.exc c fs)
  | _ => none
def runP (N : Nat) (m : M Fl) (xs : List PV) : Option RO := endP (m (stoP N xs))
def endI : Option (Rs Fl) → Option (PV × RO)
  | some (.ok .nx (some (.i x) :: _)) => some (x, .ret .non)
  | some (.ok (.rt y) (some (.i x) :: _)) => some (x, .ret y)
  | some (.ex c fs (some (.i x) :: _)) => some (x, .exc c fs)
  | _ => none
def runI (N : Nat) (m : M Fl) (x : PV) (xs : List PV) : Option (PV × RO) := endI (m (some (.i x) :: stoP (N - 1) xs))

section
variable {K : PySem.W.Frag} {cl : Nat → Addr} {F : Fr} {G G' H H' : Hp} {σ : L2.St} {S : Sto}
theorem StOk.grown (k : StOk K cl F G H σ S) (g : Grown G H G' H') : StOk K cl F G' H' σ S := by
  have gn : ∀ {a : Addr} {x : PV}, G a = none → OwnAt K cl G H a x → G' a = none ∧ H' a = H a := fun {a x} n q => by
    obtain ⟨o, e⟩ := q.there
    refine ⟨?_, by rw [e]; exact g.h a o e⟩
    cases z : G' a with
    | none => rfl
    | some u =>
      rcases g.new a u z with y | y
      · rw [n] at y; cases y
      · rw [e] at y; cases y
  refine ⟨g.gh, k.ex0.trans g.g, k.len, fun i x e => ?_, fun i x e => ?_, fun i x e => ?_, k.dist, k.io, k.ioh, k.iod, fun a o e n => g.h a o (k.frame a o e n), fun a o e => ?_, fun a o e => ?_⟩
  · obtain ⟨v, e1, r⟩ := k.val i x e
    exact ⟨v, e1, r.mono g.g⟩
  · obtain ⟨a, e1, ga, ha, q⟩ := k.own i x e
    obtain ⟨n, e2⟩ := gn ga q
    exact ⟨a, e1, n, ha, q.mono g.g e2⟩
  · obtain ⟨a, e1, ga, ha, q⟩ := k.inn i x e
    obtain ⟨n, e2⟩ := gn ga q
    exact ⟨a, e1, n, ha, q.mono g.g e2⟩
  · rcases g.new a o e with y | y
    · exact k.gnew a o y
    · exact .inr (k.free0 y)
  · obtain ⟨r1, r2, r3, r4⟩ := k.rsv a o e
    refine ⟨g.h a o r1, ?_, r3, r4⟩
    cases z : G' a with
    | none => rfl
    | some u =>
      rcases g.new a u z with y | y
      · rw [r2] at y; cases y
      · rw [r1] at y; cases y
/-- behind a call that changed the own object of slot i -/
theorem StOk.grownO (k : StOk K cl F G H σ S) {i : Nat} {a : Addr} {x y : PV} (hs : S[i]? = some (some (.o x))) (ha : σ[i]? = some (some (V.ref a))) (g : GrownI a G H G' H') (q : OwnAt K cl G' H' a y) : StOk K cl F G' H' σ (S.set i (some (.o y))) := by
  obtain ⟨a', e1, ga, h0, w⟩ := k.own i x hs
  rw [ha] at e1
  cases e1
  have gn : ∀ {b : Addr} {z : PV}, G b = none → OwnAt K cl G H b z → G' b = none := fun {b z} n q => by
    obtain ⟨o, e⟩ := q.there
    cases y : G' b with
    | none => rfl
    | some u =>
      rcases g.new b u y with y | y
      · rw [n] at y; cases y
      · rw [e] at y; cases y
  have hb : ∀ {b : Addr} {z : PV}, b ≠ a → OwnAt K cl G H b z → H' b = H b := fun {b z} n q => by
    obtain ⟨o, e⟩ := q.there
    rw [e]; exact g.h b o n e
  refine ⟨g.gh, k.ex0.trans g.g, by rw [List.length_set]; exact k.len, fun j z e => ?_, fun j z e => ?_, fun j z e => ?_, fun j l b y' z e1 e2 e3 e4 => ?_, fun j b e => ?_, k.ioh, k.iod, fun b u e n => ?_, fun b o e => ?_, fun b o e => ?_⟩
  · rcases set_get e with ⟨rfl, q, lt⟩ | ⟨n, q⟩
    · cases q
    · obtain ⟨v, e1, r⟩ := k.val j z q
      exact ⟨v, e1, r.mono g.g⟩
  · rcases set_get e with ⟨rfl, q', lt⟩ | ⟨n, q'⟩
    · cases q'
      exact ⟨a, ha, gn ga w, h0, q⟩
    · obtain ⟨b, e1, gb, hb0, w'⟩ := k.own j z q'
      have ne : b ≠ a := fun zz => n (k.dist j i b z x q' hs e1 (by rw [zz]; exact ha))
      exact ⟨b, e1, gn gb w', hb0, w'.mono g.g (hb ne w')⟩
  · rcases set_get e with ⟨rfl, q, lt⟩ | ⟨n, q'⟩
    · cases q
    · obtain ⟨b, e1, gb, hb0, w'⟩ := k.inn j z q'
      have ne : b ≠ a := fun zz => by
        obtain ⟨u, hu⟩ := k.ioh j b hb0
        rw [zz, h0] at hu
        cases hu
      exact ⟨b, e1, gn gb w', hb0, w'.mono g.g (hb ne w')⟩
  · have hj : ∃ y0, S[j]? = some (some (.o y0)) := by
      rcases set_get e1 with ⟨rfl, q, lt⟩ | ⟨n, q⟩
      · exact ⟨x, hs⟩
      · exact ⟨_, q⟩
    have hl : ∃ y0, S[l]? = some (some (.o y0)) := by
      rcases set_get e2 with ⟨rfl, q, lt⟩ | ⟨n, q⟩
      · exact ⟨x, hs⟩
      · exact ⟨_, q⟩
    obtain ⟨y1, h1⟩ := hj
    obtain ⟨y2, h2⟩ := hl
    exact k.dist j l b y1 y2 h1 h2 e3 e4
  · obtain ⟨x', hx⟩ := k.io j b e
    refine ⟨x', ?_⟩
    rw [List.getElem?_set_ne (fun z => by rw [← z, hs] at hx; cases hx)]
    exact hx
  · exact g.h b u (fun z => by rw [z, h0] at e; cases e) (k.frame b u e n)
  · rcases g.new b o e with y | y
    · exact k.gnew b o y
    · exact .inr (k.free0 y)
  · obtain ⟨r1, r2, r3, r4⟩ := k.rsv b o e
    have ne : b ≠ a := fun z => r4 i x hs (by rw [z]; exact ha)
    refine ⟨g.h b o ne r1, ?_, r3, fun j y' q' z => ?_⟩
    · cases z : G' b with
      | none => rfl
      | some u =>
        rcases g.new b u z with y | y
        · rw [r2] at y; cases y
        · rw [r1] at y; cases y
    rcases set_get q' with ⟨rfl, q2, lt⟩ | ⟨n, q2⟩
    · exact r4 j x hs z
    · exact r4 j y' q2 z
theorem StOk.grownII (k : StOk K cl F G H σ S) {i : Nat} {a : Addr} {x y : PV} (hs : S[i]? = some (some (.i x))) (ha : σ[i]? = some (some (V.ref a))) (g : GrownI a G H G' H') (q : OwnAt K cl G' H' a y) : StOk K cl F G' H' σ (S.set i (some (.i y))) := by
  obtain ⟨a', e1, ga, hio, w⟩ := k.inn i x hs
  rw [ha] at e1
  cases e1
  have gn : ∀ {b : Addr} {z : PV}, G b = none → OwnAt K cl G H b z → G' b = none := fun {b z} n q => by
    obtain ⟨o, e⟩ := q.there
    cases y : G' b with
    | none => rfl
    | some u =>
      rcases g.new b u y with y | y
      · rw [n] at y; cases y
      · rw [e] at y; cases y
  have hb : ∀ {b : Addr} {z : PV}, b ≠ a → OwnAt K cl G H b z → H' b = H b := fun {b z} n q => by
    obtain ⟨o, e⟩ := q.there
    rw [e]; exact g.h b o n e
  refine ⟨g.gh, k.ex0.trans g.g, by rw [List.length_set]; exact k.len, fun j z e => ?_, fun j z e => ?_, fun j z e => ?_, fun j l b y' z e1 e2 e3 e4 => ?_, fun j b e => ?_, k.ioh, k.iod, fun b u e n => ?_, fun b o e => ?_, fun b o e => ?_⟩
  · rcases set_get e with ⟨rfl, q, lt⟩ | ⟨n, q⟩
    · cases q
    · obtain ⟨v, e1, r⟩ := k.val j z q
      exact ⟨v, e1, r.mono g.g⟩
  · rcases set_get e with ⟨rfl, q', lt⟩ | ⟨n, q'⟩
    · cases q'
    · obtain ⟨b, e1, gb, hb0, w'⟩ := k.own j z q'
      have ne : b ≠ a := fun zz => by
        obtain ⟨u, hu⟩ := k.ioh i a hio
        rw [← zz, hb0] at hu
        cases hu
      exact ⟨b, e1, gn gb w', hb0, w'.mono g.g (hb ne w')⟩
  · rcases set_get e with ⟨rfl, q', lt⟩ | ⟨n, q'⟩
    · cases q'
      exact ⟨a, ha, gn ga w, hio, q⟩
    · obtain ⟨b, e1, gb, hb0, w'⟩ := k.inn j z q'
      have ne : b ≠ a := fun zz => n (k.iod j i b hb0 (by rw [zz]; exact hio))
      exact ⟨b, e1, gn gb w', hb0, w'.mono g.g (hb ne w')⟩
  · rcases set_get e1 with ⟨rfl, q, lt⟩ | ⟨n, q1⟩
    · cases q
    · rcases set_get e2 with ⟨rfl, q, lt⟩ | ⟨n, q2⟩
      · cases q
      · exact k.dist j l b _ _ q1 q2 e3 e4
  · by_cases z : j = i
    · subst z
      exact ⟨y, List.getElem?_set_self ((List.getElem?_eq_some_iff.mp hs).1)⟩
    · obtain ⟨x', hx⟩ := k.io j b e
      exact ⟨x', by rw [List.getElem?_set_ne (Ne.symm z)]; exact hx⟩
  · exact g.h b u (fun z => n i (by rw [z]; exact hio)) (k.frame b u e n)
  · rcases g.new b o e with y | y
    · exact k.gnew b o y
    · exact .inr (k.free0 y)
  · obtain ⟨r1, r2, r3, r4⟩ := k.rsv b o e
    have ne : b ≠ a := fun z => by
      obtain ⟨u', hu⟩ := k.ioh i a hio
      rw [← z, r3] at hu
      cases hu
    refine ⟨g.h b o ne r1, ?_, r3, fun j y' q' z => ?_⟩
    · cases z : G' b with
      | none => rfl
      | some u =>
        rcases g.new b u z with y | y
        · rw [r2] at y; cases y
        · rw [r1] at y; cases y
    rcases set_get q' with ⟨rfl, q2, lt⟩ | ⟨n, q2⟩
    · cases q2
    · exact r4 j y' q2 z
end

/-! ### the stores at a def's entry -/
theorem get_replicate {α : Type} {n i : Nat} {x y : α} (h : (List.replicate n x)[i]? = some y) : y = x := by
  rw [List.getElem?_replicate] at h
  split at h
  · exact (Option.some.inj h).symm
  · cases h
theorem stoP_get {N : Nat} {xs : List PV} {i : Nat} {y : SV} (h : (stoP N xs)[i]? = some (some y)) : ∃ x, xs[i]? = some x ∧ y = .p x := by
  unfold stoP at h
  by_cases z : i < xs.length
  · rw [List.getElem?_append_left (by rw [List.length_map]; exact z), List.getElem?_map] at h
    cases e : xs[i]? with
    | none => rw [e] at h; cases h
    | some x =>
      rw [e] at h
      exact ⟨x, rfl, by injection h with h; injection h with h; exact h.symm⟩
  · rw [List.getElem?_append_right (by rw [List.length_map]; omega)] at h
    have := get_replicate h
    cases this
theorem start_get {N : List Str} {vs : List V} {i : Nat} {v : V} (h : vs[i]? = some v) : (L2.start N vs)[i]? = some (some v) := by
  unfold L2.start
  obtain ⟨hi, e⟩ := List.getElem?_eq_some_iff.mp h
  rw [List.getElem?_append_left (by rw [List.length_map]; exact hi), List.getElem?_map, h]
  rfl
theorem start_len {N : List Str} {vs : List V} (h : vs.length ≤ N.length) : (L2.start N vs).length = N.length := by
  unfold L2.start
  rw [List.length_append, List.length_map, List.length_replicate]
  omega
theorem stoP_len {N : Nat} {xs : List PV} (h : xs.length ≤ N) : (stoP N xs).length = N := by
  unfold stoP
  rw [List.length_append, List.length_map, List.length_replicate]
  omega
theorem stOk_startP {K : PySem.W.Frag} {cl : Nat → Addr} {G H : Hp} {N : List Str} {vs : List V} {xs : List PV} (e : Same G H) (r : RepL K cl G vs xs) (hl : vs.length ≤ N.length) :
    StOk K cl ⟨G, H, fun _ => none, fun _ => none⟩ G H (L2.start N vs) (stoP N.length xs) := by
  refine ⟨e, Same.refl _, ?_, fun i x h => ?_, fun i x h => ?_, fun i x h => ?_, fun i j a x y h _ _ _ => ?_, fun i a h => ?_, fun i a h => ?_, fun i j a h => ?_, fun a o h _ => h, fun a o h => .inl h, fun a o h => by cases h⟩
  · rw [start_len hl, stoP_len (by rw [← r.length]; exact hl)]
  · obtain ⟨x', hx, q⟩ := stoP_get h
    cases q
    obtain ⟨v, ev, rv⟩ := r.get hx
    exact ⟨v, start_get ev, rv⟩
  · obtain ⟨x', hx, q⟩ := stoP_get h
    cases q
  · obtain ⟨x', hx, q⟩ := stoP_get h
    cases q
  · obtain ⟨x', hx, q⟩ := stoP_get h
    cases q
  · cases h
  · cases h
  · cases h
theorem stOk_startI {K : PySem.W.Frag} {cl : Nat → Addr} {G H : Hp} {N : List Str} {a : Addr} {x : PV} {vs : List V} {xs : List PV} (e : Same G H) (ga : G a = none) (q : OwnAt K cl G H a x) (r : RepL K cl G vs xs) (hl : vs.length + 1 ≤ N.length) :
    StOk K cl ⟨G, H, fun i => if i = 0 then some a else none, fun _ => none⟩ G H (L2.start N (.ref a :: vs)) (some (.i x) :: stoP (N.length - 1) xs) := by
  have tl : ∀ {i : Nat} {y : SV}, (some (SV.i x) :: stoP (N.length - 1) xs)[i]? = some (some y) → (i = 0 ∧ y = .i x) ∨ ∃ j z, i = j + 1 ∧ xs[j]? = some z ∧ y = .p z := fun {i y} h => by
    cases i with
    | zero =>
      have h' : some (SV.i x) = some y := by simpa using h
      exact .inl ⟨rfl, (Option.some.inj h').symm⟩
    | succ j =>
      have h' : (stoP (N.length - 1) xs)[j]? = some (some y) := by simpa using h
      obtain ⟨z, e1, e2⟩ := stoP_get h'
      exact .inr ⟨j, z, rfl, e1, e2⟩
  refine ⟨e, Same.refl _, ?_, fun i y h => ?_, fun i y h => ?_, fun i y h => ?_, fun i j b y z h1 h2 _ _ => ?_, fun i b h => ?_, fun i b h => ?_, fun i j b h1 h2 => ?_, fun b o h _ => h, fun b o h => .inl h, fun b o h => by cases h⟩
  · rw [start_len (by rw [List.length_cons]; exact hl), List.length_cons, stoP_len (by rw [← r.length]; omega)]
    omega
  · rcases tl h with ⟨_, q'⟩ | ⟨j, z, rfl, e1, e2⟩
    · cases q'
    · cases e2
      obtain ⟨v, ev, rv⟩ := r.get e1
      exact ⟨v, start_get (by simpa using ev), rv⟩
  · rcases tl h with ⟨_, q'⟩ | ⟨j, z, rfl, e1, e2⟩
    · cases q'
    · cases e2
  · rcases tl h with ⟨e0, q'⟩ | ⟨j, z, rfl, e1, e2⟩
    · cases q'
      subst e0
      exact ⟨a, start_get (by simp), ga, rfl, q⟩
    · cases e2
  · rcases tl h1 with ⟨e0, q'⟩ | ⟨j, z, rfl, e1, e2⟩
    · cases q'
    · cases e2
  · dsimp only at h
    split at h
    · rename_i z
      subst z
      exact ⟨x, rfl⟩
    · cases h
  · dsimp only at h
    split at h
    · cases h
      exact q.there
    · cases h
  · dsimp only at h1 h2
    split at h1
    · split at h2
      · rename_i z1 z2
        rw [z1, z2]
      · cases h2
    · cases h1

section
variable {P : Program} {w : World} {K : PySem.W.Frag} {mg : Str → Option Value} {base : Heap} {cl : Nat → Addr}
/-- a def whose body is a computation over stores -/
theorem fnP {x qual : Str} {st : Stmt} {f : Addr} {fd : FuncData} {N ps : List Str} {k : Nat} {m : M Fl} (F : Fun K x qual st f fd) (S : FnScope N ps (defScope st))
    (hb : ∀ (cdv : Value) (A : Around) (outer : List Env) (s : Shared) (H : Hp) (E : XK), Room k (A.deeper (envOfC qual (defScope st) s.heap.objs.size f cdv)) →
      SMs (cxOf (L2N.CX P w) P w K mg base N qual (defScope st) f cdv A outer s H E) cl (fun c d _ H' => E c d H') (defBody st) m) :
    FnOk P w K mg base (L2N.CX P w) (k + 1) f fd ps (spP K cl ps.length (runP N.length m)) := by
  obtain ⟨oc, od, kV, doc, pm, an, cdv, ct, osl, rfl, lk, hcd⟩ := F.ex
  have hps : ps.length ≤ N.length := by
    have := congrArg List.length S.pre
    rw [List.length_take] at this
    omega
  refine fn_of lk hcd S (fun vs H Q E h => h.1) fun A outer s H vs Q E hr hsp => ?_
  obtain ⟨t, pt, dt⟩ := hb cdv A outer s H E hr
  obtain ⟨hl, G, xs, r, e, rl, hf, hq⟩ := hsp
  refine ⟨t, pt, ?_⟩
  have st0 := stOk_startP (N := N) e rl (by rw [hl]; exact hps)
  unfold runP endP at hf
  have gr : ∀ {G' H' : Hp} {σ' : L2.St} {S' : Sto}, Same G G' → StOk K cl ⟨G, H, fun _ => none, fun _ => none⟩ G' H' σ' S' → Grown G H G' H' := fun {G' H' σ' S'} s k => ⟨s, k.ex, fun a o h => k.frame a o h (fun i z => by cases z), k.gnew⟩
  split at hf
  · rename_i S' em
    cases hf
    exact dt _ G H _ _ _ _ st0 em fun σ' G' H' s' k' => hq .non G' H' (gr s' k') .non
  · rename_i y S' em
    cases hf
    exact dt _ G H _ _ _ _ st0 em fun v σ' G' H' s' k' r' => hq v G' H' (gr s' k') r'
  · rename_i c fs S' em
    cases hf
    exact dt _ G H _ _ _ _ st0 em fun d gs σ' G' H' s' k' a b => hq d gs G' H' (gr s' k') ⟨a.1, a.2.1⟩ b
  · cases hf
theorem fnI {x qual : Str} {st : Stmt} {f : Addr} {fd : FuncData} {N ps : List Str} {k : Nat} {m : M Fl} (F : Fun K x qual st f fd) (S : FnScope N ps (defScope st))
    (hb : ∀ (cdv : Value) (A : Around) (outer : List Env) (s : Shared) (H : Hp) (E : XK), Room k (A.deeper (envOfC qual (defScope st) s.heap.objs.size f cdv)) →
      SMs (cxOf (L2N.CX P w) P w K mg base N qual (defScope st) f cdv A outer s H E) cl (fun c d _ H' => E c d H') (defBody st) m) :
    FnOk P w K mg base (L2N.CX P w) (k + 1) f fd ps (spI K cl ps.length (runI N.length m)) := by
  obtain ⟨oc, od, kV, doc, pm, an, cdv, ct, osl, rfl, lk, hcd⟩ := F.ex
  have hps : ps.length ≤ N.length := by
    have := congrArg List.length S.pre
    rw [List.length_take] at this
    omega
  refine fn_of lk hcd S (fun vs H Q E h => h.1) fun A outer s H vs Q E hr hsp => ?_
  obtain ⟨t, pt, dt⟩ := hb cdv A outer s H E hr
  obtain ⟨hl, a, ws, G, x, x', xs, r, rfl, e, ga, ho, rl, hf, hq⟩ := hsp
  refine ⟨t, pt, ?_⟩
  have st0 := stOk_startI (N := N) e ga ho rl (by rw [List.length_cons] at hl; omega)
  unfold runI endI at hf
  have gr : ∀ {G' H' : Hp} {σ' : L2.St} {S' : Sto} {y : PV}, Same G G' → StOk K cl ⟨G, H, fun i => if i = 0 then some a else none, fun _ => none⟩ G' H' σ' (some (.i y) :: S') → GrownI a G H G' H' ∧ OwnAt K cl G' H' a y := fun {G' H' σ' S' y} s k => by
    refine ⟨⟨s, k.ex, fun b o n h => k.frame b o h (fun i z => ?_), k.gnew⟩, ?_⟩
    · dsimp only at z
      split at z
      · cases z; exact n rfl
      · cases z
    · obtain ⟨b, _, _, e1, q⟩ := k.inn 0 y rfl
      have e1' : some a = some b := e1
      cases e1'
      exact q
  split at hf
  · rename_i x1 S' em
    cases hf
    exact dt _ G H _ _ _ _ st0 em fun σ' G' H' s' k' => hq .non G' H' (gr s' k').1 (gr s' k').2 .non
  · rename_i y x1 S' em
    cases hf
    exact dt _ G H _ _ _ _ st0 em fun v σ' G' H' s' k' r' => hq v G' H' (gr s' k').1 (gr s' k').2 r'
  · rename_i c fs x1 S' em
    cases hf
    exact dt _ G H _ _ _ _ st0 em fun d gs σ' G' H' s' k' a b => hq d gs G' H' (gr s' k').1 (gr s' k').2 ⟨a.1, a.2.1⟩ b
  · cases hf
end
end Kp
set_option Elab.async false
set_option linter.all false
set_option maxRecDepth 100000
set_option maxHeartbeats 2000000
namespace Kp
open PySem PyProof.Rows L2

/-! ### data -/
mutual
def PV.dat : PV → PyData
  | .non => .none
  | .bl b => .bool b
  | .int i => .int i
  | .str x => .str x
  | .tup xs => .tuple (PV.datL xs)
  | .lst xs => .list (PV.datL xs)
  | .frl ns => .list (ns.map .int)
  | .dct _ => .none
  | .obj _ _ => .none
  | .glb _ => .none
  | .xo _ _ _ _ => .none
  | .raw _ => .none
def PV.datL : List PV → List PyData
  | [] => []
  | x :: xs => PV.dat x :: PV.datL xs
end
mutual
/-- plain data: no dict, no instance -/
def PV.isD : PV → Bool
  | .tup xs => PV.isDL xs
  | .lst xs => PV.isDL xs
  | .dct _ => false
  | .obj _ _ => false
  | .glb _ => false
  | .xo _ _ _ _ => false
  | .raw _ => false
  | _ => true
def PV.isDL : List PV → Bool
  | [] => true
  | x :: xs => PV.isD x && PV.isDL xs
end
theorem plainAll_ints : ∀ ns : List Int, PyData.plainAll (ns.map PyData.int) = true
  | [] => rfl
  | n :: ns => by
    show (PyData.plain (.int n) && PyData.plainAll (ns.map PyData.int)) = true
    rw [plainAll_ints ns]
    rfl
mutual
theorem dat_plain : ∀ x : PV, (PV.dat x).plain = true
  | .non => rfl
  | .bl _ => rfl
  | .int _ => rfl
  | .str _ => rfl
  | .tup xs => by unfold PV.dat PyData.plain; exact datL_plain xs
  | .lst xs => by unfold PV.dat PyData.plain; exact datL_plain xs
  | .frl ns => by unfold PV.dat PyData.plain; exact plainAll_ints ns
  | .dct _ => rfl
  | .obj _ _ => rfl
  | .glb _ => rfl
  | .xo _ _ _ _ => rfl
  | .raw _ => rfl
theorem datL_plain : ∀ xs : List PV, PyData.plainAll (PV.datL xs) = true
  | [] => rfl
  | x :: xs => by
    unfold PV.datL PyData.plainAll
    rw [dat_plain x, datL_plain xs]
    rfl
end
section
variable {K : PySem.W.Frag} {cl : Nat → Addr} {H : Hp}
theorem dpAll_ints : ∀ ns : List Int, DpAll K H (ns.map V.int) (ns.map PyData.int)
  | [] => .nil
  | n :: ns => .cons (.int n) (dpAll_ints ns)
mutual
theorem Rep.dp : ∀ {v : V} {x : PV}, Rep K cl H v x → PV.isD x = true → Dp K H v (PV.dat x)
  | _, _, .non, _ => .non
  | _, _, .bl b, _ => .bl b
  | _, _, .int i, _ => .int i
  | _, _, .str x _, _ => .str x
  | _, _, .frl h, _ => .lst h (dpAll_ints _)
  | _, _, .tup h _ hs, d => .tup h.sq (RepL.dp hs (by unfold PV.isD at d; exact d))
  | _, _, .lst h _ hs, d => .lst (SqL.of h) (RepL.dp hs (by unfold PV.isD at d; exact d))
  | _, _, .dct h hs, d => by cases d
  | _, _, .obj h hs, d => by cases d
theorem RepL.dp : ∀ {vs : List V} {xs : List PV}, RepL K cl H vs xs → PV.isDL xs = true → DpAll K H vs (PV.datL xs)
  | _, _, .nil, _ => .nil
  | _, _, .cons h hs, d => by
    unfold PV.isDL at d
    rw [Bool.and_eq_true] at d
    exact .cons (Rep.dp h d.1) (RepL.dp hs d.2)
end
end

/-! ### == , != , in, not in, of data -/
def pEqB (x y : PV) : Option Bool := if PV.isD x && PV.isD y && decide (min (PV.dat x).depth (PV.dat y).depth ≤ 60) then some (PyData.eqv (PV.dat x) (PV.dat y)) else none
def pEq (x y : PV) : Option PV := (pEqB x y).map PV.bl
def pNe (x y : PV) : Option PV := (pEqB x y).map fun b => .bl (!b)
theorem pEqB_some {x y : PV} {b : Bool} (h : pEqB x y = some b) : PV.isD x = true ∧ PV.isD y = true ∧ min (PV.dat x).depth (PV.dat y).depth ≤ 60 ∧ b = PyData.eqv (PV.dat x) (PV.dat y) := by
  unfold pEqB at h
  split at h
  · rename_i c
    simp only [Bool.and_eq_true, decide_eq_true_eq] at c
    exact ⟨c.1.1, c.1.2, c.2, (Option.some.inj h).symm⟩
  · cases h
section
variable {X : Cx} {cl : Nat → Addr} {W : WX} {pos : Pos}
def rEqP (K : PySem.W.Frag) (n : Bool) : R2 := fun x y H Q => ∃ d e, Dp K H x d ∧ Dp K H y e ∧ d.plain = true ∧ e.plain = true ∧ min d.depth e.depth ≤ 60 ∧ Q (.bl (if n then !PyData.eqv d e else PyData.eqv d e)) H
theorem op_eqP (hu : X.A.units + 64 < cLine) : OpR X (compareOp .Eq) (rEqP X.K false) := by
  intro pins s σ H x y v u Q I rx ry h
  obtain ⟨d, e, hd, he, sd, se, hz, q⟩ := h
  obtain ⟨as, r1⟩ := Dp.reads I d x v hd rx
  obtain ⟨bs, r2⟩ := Dp.reads I e y u he ry
  exact SeqAt.eq_plain r1 r2 sd se (by omega) ⟨.bl _, H, I, rfl, q⟩
theorem op_neP (hu : X.A.units + 64 < cLine) : OpR X (compareOp .NotEq) (rEqP X.K true) := by
  intro pins s σ H x y v u Q I rx ry h
  obtain ⟨d, e, hd, he, sd, se, hz, q⟩ := h
  obtain ⟨as, r1⟩ := Dp.reads I d x v hd rx
  obtain ⟨bs, r2⟩ := Dp.reads I e y u he ry
  exact SeqAt.ne_plain r1 r2 sd se (by omega) ⟨.bl _, H, I, rfl, q⟩
theorem bs_eqP : BinS X.K cl (rEqP X.K false) pEq := by
  intro G H v u x y z Q e rv ru hz k
  unfold pEq at hz
  cases q : pEqB x y with
  | none => rw [q] at hz; cases hz
  | some b =>
    rw [q] at hz
    cases hz
    obtain ⟨h1, h2, h3, rfl⟩ := pEqB_some q
    exact ⟨_, _, (rv.mono e).dp h1, (ru.mono e).dp h2, dat_plain x, dat_plain y, h3, k _ _ (.inl ⟨rfl, .bl _⟩)⟩
theorem bs_neP : BinS X.K cl (rEqP X.K true) pNe := by
  intro G H v u x y z Q e rv ru hz k
  unfold pNe at hz
  cases q : pEqB x y with
  | none => rw [q] at hz; cases hz
  | some b =>
    rw [q] at hz
    cases hz
    obtain ⟨h1, h2, h3, rfl⟩ := pEqB_some q
    exact ⟨_, _, (rv.mono e).dp h1, (ru.mono e).dp h2, dat_plain x, dat_plain y, h3, k _ _ (.inl ⟨rfl, .bl _⟩)⟩
theorem br_eq (hu : X.A.units + 64 < cLine) : BinR X cl (compareOp .Eq) pEq := ⟨_, op_eqP hu, bs_eqP⟩
theorem br_ne (hu : X.A.units + 64 < cLine) : BinR X cl (compareOp .NotEq) pNe := ⟨_, op_neP hu, bs_neP⟩

/-- x in c -/
def pInB (x c : PV) : Option Bool :=
  match c with
  | .tup ys => if PV.isD x && PV.isDL ys && decide (min (PyData.depthAll (PV.datL ys)) (PV.dat x).depth ≤ 60) then some ((PV.datL ys).any fun d => PyData.eqv d (PV.dat x)) else none
  | .lst ys => if PV.isD x && PV.isDL ys && decide (min (PyData.depthAll (PV.datL ys)) (PV.dat x).depth ≤ 60) then some ((PV.datL ys).any fun d => PyData.eqv d (PV.dat x)) else none
  | .str z => match x with
    | .str y => if y.length = 1 then (y.cps.toList.head?).map fun c => decide (c ∈ z.cps.toList) else none
    | _ => none
  | _ => none
def pIn (x c : PV) : Option PV := (pInB x c).map PV.bl
def pNotIn (x c : PV) : Option PV := (pInB x c).map fun b => .bl (!b)
def rInP (K : PySem.W.Frag) (n : Bool) : R2 := fun x y H Q => ∃ d ds, Dp K H x d ∧ (Dp K H y (.list ds) ∨ Dp K H y (.tuple ds)) ∧ d.plain = true ∧ PyData.plainAll ds = true ∧ min (PyData.depthAll ds) d.depth ≤ 60 ∧ Q (.bl (if n then !ds.any fun z => PyData.eqv z d else ds.any fun z => PyData.eqv z d)) H
theorem op_inP (hu : X.A.units + 64 < cLine) : OpR X (compareOp .In) (rInP X.K false) := by
  intro pins s σ H x y v u Q I rx ry h
  obtain ⟨d, ds, hd, he, sd, se, hz, q⟩ := h
  obtain ⟨as, r1⟩ := Dp.reads I d x v hd rx
  rcases he with he | he
  · obtain ⟨bs, r2⟩ := Dp.reads I _ y u he ry
    exact SeqAt.in_list_data r2 r1 se sd (by omega) ⟨.bl _, H, I, rfl, q⟩
  · obtain ⟨bs, r2⟩ := Dp.reads I _ y u he ry
    exact SeqAt.in_tuple_data r2 r1 se sd (by omega) ⟨.bl _, H, I, rfl, q⟩
theorem op_notInP (hu : X.A.units + 64 < cLine) : OpR X (compareOp .NotIn) (rInP X.K true) := by
  intro pins s σ H x y v u Q I rx ry h
  obtain ⟨d, ds, hd, he, sd, se, hz, q⟩ := h
  obtain ⟨as, r1⟩ := Dp.reads I d x v hd rx
  rcases he with he | he
  · obtain ⟨bs, r2⟩ := Dp.reads I _ y u he ry
    exact SeqAt.notIn_list_data r2 r1 se sd (by omega) ⟨.bl _, H, I, rfl, q⟩
  · obtain ⟨bs, r2⟩ := Dp.reads I _ y u he ry
    exact SeqAt.notIn_tuple_data r2 r1 se sd (by omega) ⟨.bl _, H, I, rfl, q⟩
def rInSg (n : Bool) : R2 := fun x y H Q => ∃ (c : Nat) (z : Str), x = .str ⟨#[c]⟩ ∧ y = .str z ∧ Q (.bl (if n then !decide (c ∈ z.cps.toList) else decide (c ∈ z.cps.toList))) H
theorem br_in (hu : X.A.units + 64 < cLine) : BinR X cl (compareOp .In) pIn := by
  refine ⟨_, (op_inP hu).or (op_in_sign (X := X)), ?_⟩
  intro G H v u x y z Q e rv ru hz k
  unfold pIn pInB at hz
  cases y <;> try (cases hz; done)
  · -- str
    cases x <;> try (cases hz; done)
    rename_i zs ys
    dsimp only at hz
    split at hz <;> try (cases hz; done)
    rename_i hl
    cases rv
    cases ru
    obtain ⟨⟨ls⟩⟩ := ys
    cases ls with
    | nil => cases hl
    | cons c r =>
      cases r with
      | nil =>
        have hz' : PV.bl (decide (c ∈ zs.cps.toList)) = z := Option.some.inj (by simpa using hz)
        subst hz'
        exact .inr ⟨c, zs, rfl, rfl, k _ _ (.inl ⟨rfl, .bl _⟩)⟩
      | cons _ _ => simp [Str.length] at hl
  all_goals
    rename_i ys
    dsimp only at hz
    split at hz <;> try (cases hz; done)
    rename_i c
    simp only [Bool.and_eq_true, decide_eq_true_eq] at c
    cases hz
  · refine .inl ⟨_, _, (rv.mono e).dp c.1.1, .inr ((ru.mono e).dp (by unfold PV.isD; exact c.1.2)), dat_plain x, datL_plain ys, c.2, k _ _ (.inl ⟨rfl, .bl _⟩)⟩
  · refine .inl ⟨_, _, (rv.mono e).dp c.1.1, .inl ((ru.mono e).dp (by unfold PV.isD; exact c.1.2)), dat_plain x, datL_plain ys, c.2, k _ _ (.inl ⟨rfl, .bl _⟩)⟩
theorem br_notIn (hu : X.A.units + 64 < cLine) : BinR X cl (compareOp .NotIn) pNotIn := by
  refine ⟨_, (op_notInP hu).or (op_notIn_sign (X := X)), ?_⟩
  intro G H v u x y z Q e rv ru hz k
  unfold pNotIn pInB at hz
  cases y <;> try (cases hz; done)
  · -- str
    cases x <;> try (cases hz; done)
    rename_i zs ys
    dsimp only at hz
    split at hz <;> try (cases hz; done)
    rename_i hl
    cases rv
    cases ru
    obtain ⟨⟨ls⟩⟩ := ys
    cases ls with
    | nil => cases hl
    | cons c r =>
      cases r with
      | nil =>
        have hz' : PV.bl (!decide (c ∈ zs.cps.toList)) = z := Option.some.inj (by simpa using hz)
        subst hz'
        exact .inr ⟨c, zs, rfl, rfl, k _ _ (.inl ⟨rfl, .bl _⟩)⟩
      | cons _ _ => simp [Str.length] at hl
  all_goals
    rename_i ys
    dsimp only at hz
    split at hz <;> try (cases hz; done)
    rename_i c
    simp only [Bool.and_eq_true, decide_eq_true_eq] at c
    cases hz
  · refine .inl ⟨_, _, (rv.mono e).dp c.1.1, .inr ((ru.mono e).dp (by unfold PV.isD; exact c.1.2)), dat_plain x, datL_plain ys, c.2, k _ _ (.inl ⟨rfl, .bl _⟩)⟩
  · refine .inl ⟨_, _, (rv.mono e).dp c.1.1, .inl ((ru.mono e).dp (by unfold PV.isD; exact c.1.2)), dat_plain x, datL_plain ys, c.2, k _ _ (.inl ⟨rfl, .bl _⟩)⟩

/-! ### < , <= , > , >= -/
def pLtB (x y : PV) : Option Bool :=
  match x, y with
  | .int i, .int j => some (decide (i < j))
  | .str a, .str b => some (decide (a.cps.toList < b.cps.toList))
  | .tup a, .tup b => if PV.isDL a && PV.isDL b && PySem.W.alike (.tuple (PV.datL a)) (.tuple (PV.datL b)) && decide (min (PyData.depth (.tuple (PV.datL a))) (PyData.depth (.tuple (PV.datL b))) ≤ 60) then some (PySem.W.dataLt (.tuple (PV.datL a)) (.tuple (PV.datL b))) else none
  | _, _ => none
def pLt (x y : PV) : Option PV := (pLtB x y).map PV.bl
def pGt (x y : PV) : Option PV := (pLtB y x).map PV.bl
def pLe (x y : PV) : Option PV := (pLtB y x).map fun b => .bl (!b)
def pGe (x y : PV) : Option PV := (pLtB x y).map fun b => .bl (!b)
def rLtP (K : PySem.W.Frag) : R2 := fun x y H Q => ∃ d e, Dp K H x d ∧ Dp K H y e ∧ PySem.W.alike d e = true ∧ d ≠ .none ∧ min d.depth e.depth ≤ 60 ∧ Q (.bl (PySem.W.dataLt d e)) H
theorem op_ltP (hu : X.A.units + 64 < cLine) : OpR X (compareOp .Lt) (rLtP X.K) := by
  intro pins s σ H x y v u Q I rx ry h
  obtain ⟨d, e, hd, he, al, nn, hz, q⟩ := h
  obtain ⟨as, r1⟩ := Dp.reads I d x v hd rx
  obtain ⟨bs, r2⟩ := Dp.reads I e y u he ry
  exact PySem.W.lt_data r1 r2 al nn (by omega) ⟨.bl _, H, I, rfl, q⟩
theorem br_lt (hu : X.A.units + 64 < cLine) : BinR X cl (compareOp .Lt) pLt := by
  refine ⟨_, (op_ltP hu).or ((op_lt (X := X)).or op_lt_str), ?_⟩
  intro G H v u x y z Q e rv ru hz k
  unfold pLt pLtB at hz
  cases x <;> cases y <;> try (cases hz; done)
  · cases hz
    cases rv
    cases ru
    exact .inr (.inl ⟨_, _, rfl, rfl, k _ _ (.inl ⟨rfl, .bl _⟩)⟩)
  · cases hz
    cases rv
    cases ru
    exact .inr (.inr ⟨_, _, rfl, rfl, k _ _ (.inl ⟨rfl, .bl _⟩)⟩)
  · rename_i a b
    dsimp only at hz
    split at hz <;> try (cases hz; done)
    rename_i c
    simp only [Bool.and_eq_true, decide_eq_true_eq] at c
    cases hz
    exact .inl ⟨_, _, (rv.mono e).dp (by unfold PV.isD; exact c.1.1.1), (ru.mono e).dp (by unfold PV.isD; exact c.1.1.2), c.1.2, (fun q => by cases q), c.2, k _ _ (.inl ⟨rfl, .bl _⟩)⟩
def pGtI (x y : PV) : Option PV := match x, y with
    | .int i, .int j => some (.bl (decide (j < i)))
    | .str a, .str b => some (.bl (decide (b.cps.toList < a.cps.toList)))
    | _, _ => none
def pLeI (x y : PV) : Option PV := match x, y with
    | .int i, .int j => some (.bl (decide (i ≤ j)))
    | .str a, .str b => some (.bl (!decide (b.cps.toList < a.cps.toList)))
    | _, _ => none
def pGeI (x y : PV) : Option PV := match x, y with
    | .int i, .int j => some (.bl (decide (j ≤ i)))
    | .str a, .str b => some (.bl (!decide (a.cps.toList < b.cps.toList)))
    | _, _ => none
def rGtS : R2 := fun x y H Q => ∃ i j, x = .str i ∧ y = .str j ∧ Q (.bl (decide (j.cps.toList < i.cps.toList))) H
theorem br_gt : BinR X cl (compareOp .Gt) pGtI := by
  refine ⟨_, (op_gt (X := X)).or op_gt_str, ?_⟩
  intro G H v u x y z Q e rv ru hz k
  cases x <;> cases y <;> try (cases hz; done)
  · cases hz
    cases rv
    cases ru
    exact .inl ⟨_, _, rfl, rfl, k _ _ (.inl ⟨rfl, .bl _⟩)⟩
  · cases hz
    cases rv
    cases ru
    exact .inr ⟨_, _, rfl, rfl, k _ _ (.inl ⟨rfl, .bl _⟩)⟩
theorem br_le : BinR X cl (compareOp .LtE) pLeI := by
  refine ⟨_, (op_le (X := X)).or op_le_str, ?_⟩
  intro G H v u x y z Q e rv ru hz k
  cases x <;> cases y <;> try (cases hz; done)
  · cases hz
    cases rv
    cases ru
    exact .inl ⟨_, _, rfl, rfl, k _ _ (.inl ⟨rfl, .bl _⟩)⟩
  · cases hz
    cases rv
    cases ru
    exact .inr ⟨_, _, rfl, rfl, k _ _ (.inl ⟨rfl, .bl _⟩)⟩
theorem br_ge : BinR X cl (compareOp .GtE) pGeI := by
  refine ⟨_, (op_ge (X := X)).or op_ge_str, ?_⟩
  intro G H v u x y z Q e rv ru hz k
  cases x <;> cases y <;> try (cases hz; done)
  · cases hz
    cases rv
    cases ru
    exact .inl ⟨_, _, rfl, rfl, k _ _ (.inl ⟨rfl, .bl _⟩)⟩
  · cases hz
    cases rv
    cases ru
    exact .inr ⟨_, _, rfl, rfl, k _ _ (.inl ⟨rfl, .bl _⟩)⟩
end
end Kp
set_option Elab.async false
set_option linter.all false
set_option maxRecDepth 100000
set_option maxHeartbeats 2000000
namespace Kp
open PySem PyProof.Rows L2

/-! ### tuples that are made, with their objects told -/
section
variable {X : Cx} {pos : Pos}
def tupO (its : List Value) : Obj := { cls := .type "tuple", data := .seq its.toArray }
theorem tup_laid {pins : List (Addr × Obj)} {σ : L2.St} {H : Hp} {s : Shared} {h' : Heap} {t' : Nat} {ys : List V} {us : List Value} (I : Inv X pins σ H { s with heap := h', toks := t' }) (r : Vals ys us) (hz : ys.length ≤ sizeLine) :
    Inv X pins σ (upd H h'.objs.size (.frz (tupO us) (.tup ys))) { s with heap := h'.push (tupO us), toks := t' } :=
  I.laid (t' := t') (fun _ _ e => Heap.get?_push_of_some _ e) (Nat.le_refl _) ⟨Heap.get?_push_size _ rfl, hz, us, r, IsTup.new _ _⟩
def tTupF (t : TA) : TE := fun σ H Q => t σ H fun xs H1 => xs.length ≤ sizeLine ∧ ∀ (p : Addr) (o : Obj), o.dict = none → H1 p = none → Q (.ref p) (upd H1 p (.frz o (.tup xs)))
theorem pe_tupF {es : List Expr} {t : TA} {x1} (h : PA X es t) : PE X (.Tuple es x1 pos) (tTupF t) := by
  refine ⟨fun pins s σ H Q I hq => ?_⟩
  refine wpAny_Tuple_spliced (thn (h.run pos pins s σ H _ I hq) fun us s1 ⟨xs, H1, I1, r, z, q⟩ => ⟨by rw [← r.length]; exact z, ?_⟩)
  obtain ⟨hp, g, d, tk, os⟩ := s1
  exact ⟨.ref hp.objs.size, _, tup_laid (s := ⟨hp, g, d, tk, os⟩) (h' := hp) (t' := tk) I1 r z, rfl, q _ _ rfl (I1.hok.fresh (Nat.le_refl _))⟩
def rTupleOfF (K : PySem.W.Frag) : List V → Hp → VK → Prop := fun xs H Q => ∃ p ys, xs = [V.ref p] ∧ ((SqL K H p ys ∧ ∀ (l : Addr) (o : Obj), o.dict = none → H l = none → Q (.ref l) (upd H l (.frz o (.tup ys)))) ∨ (SqT K H p ys ∧ Q (.ref p) H))
theorem cr_tupleF : CallR X (.type "tuple") (rTupleOfF X.K) := by
  intro pins s σ H xs us Q I r h
  obtain ⟨p, ys, rfl, h⟩ := h
  obtain ⟨u, rfl, rx⟩ := vals1 r
  obtain rfl : u = Value.ref p := rx
  rcases h with ⟨hq, q⟩ | ⟨hq, q⟩
  · obtain ⟨its, rv, pl, hz⟩ := I.list hq
    refine call_tuple_list pl.isList (fun h' kp => ?_) (by simp only [List.size_toArray]; have := rv.length; omega)
    have I1 : Inv X pins σ H { s with heap := h', toks := s.toks } := I.kept (t' := s.toks) kp
    exact ⟨.ref h'.objs.size, _, tup_laid I1 rv hz, rfl, q _ _ rfl (I1.hok.fresh (Nat.le_refl _))⟩
  · obtain ⟨its, rv, pl, hz⟩ := I.tuple hq
    exact call_tuple_same pl ⟨.ref p, H, I, rfl, q⟩
def rSlF (K : PySem.W.Frag) : V → Option Int → Option Int → Hp → VK → Prop := fun x lo hi H Q => ∃ a xs, x = .ref a ∧ SqT K H a xs ∧
  (HT.sIx xs.length 0 lo = 0 ∧ HT.sIx xs.length xs.length hi = xs.length → Q (.ref a) H) ∧ (¬ (HT.sIx xs.length 0 lo = 0 ∧ HT.sIx xs.length xs.length hi = xs.length) → ∀ (p : Addr) (o : Obj), o.dict = none → H p = none → Q (.ref p) (upd H p (.frz o (.tup (cutV xs lo hi)))))
theorem sl_tupF : SlR X (rSlF X.K) := by
  intro pins s σ H x v vl vu lo hi sl Q I rx hs pl pu h
  obtain ⟨a, xs, rfl, hx, q1, q2⟩ := h
  obtain rfl : v = Value.ref a := rx
  obtain ⟨its, rv, ht, hz⟩ := I.tuple hx
  have hlen : its.toArray.size = xs.length := by rw [List.size_toArray]; exact rv.length.symm
  refine ⟨"tuple", _, PyProof.Rows.slot_tuple_getitem.lookup, ht.typeIs, ?_⟩
  by_cases hw : HT.sIx xs.length 0 lo = 0 ∧ HT.sIx xs.length xs.length hi = xs.length
  · exact getItem_tuple_whole ht hs pl pu (by rw [hlen]; exact hw) ⟨.ref a, H, I, rfl, q1 hw⟩
  · refine HT.getItem_tuple_cut ht hs pl pu (by rw [hlen]; exact hw) ?_ (by rw [hlen]; exact hz)
    rw [hlen]
    have rc : Vals (cutV xs lo hi) _ := (rv.drop (HT.sIx xs.length 0 lo)).take (HT.sIx xs.length xs.length hi - HT.sIx xs.length 0 lo)
    obtain ⟨hp, g, d, tk, os⟩ := s
    exact ⟨.ref hp.objs.size, _, tup_laid (s := ⟨hp, g, d, tk, os⟩) (h' := hp) (t' := tk) I rc (Nat.le_trans (cutV_length xs lo hi) hz), rfl, q2 hw _ _ rfl (I.hok.fresh (Nat.le_refl _))⟩
def rCatF (K : PySem.W.Frag) : R2 := fun x y H Q => ∃ a b xs ys, x = .ref a ∧ y = .ref b ∧ SqT K H a xs ∧ SqT K H b ys ∧ xs.length + ys.length ≤ sizeLine ∧
  (xs = [] → Q (.ref b) H) ∧ (xs ≠ [] → ys = [] → Q (.ref a) H) ∧ (xs ≠ [] → ys ≠ [] → ∀ (p : Addr) (o : Obj), o.dict = none → H p = none → Q (.ref p) (upd H p (.frz o (.tup (xs ++ ys)))))
theorem op_catF : OpR X (binaryOp .Add) (rCatF X.K) := by
  intro pins s σ H x y v u Q I rx ry h
  obtain ⟨a, b, xs, ys, rfl, rfl, ha, hb, hz, q0, q1, q2⟩ := h
  obtain rfl : v = Value.ref a := rx
  obtain rfl : u = Value.ref b := ry
  obtain ⟨its, r1, p1, _⟩ := I.tuple ha
  obtain ⟨its2, r2, p2, _⟩ := I.tuple hb
  by_cases hx : xs = []
  · subst hx
    cases r1
    exact cat_tup0 p1 p2 ⟨.ref b, H, I, rfl, q0 rfl⟩
  · refine HT.cat_tup p1 p2 (fun z => hx (r1.nil_iff.mp z)) (fun z => ⟨.ref a, H, I, rfl, q1 hx (r2.nil_iff.mp z)⟩) (fun z => ?_) (by rw [← r1.length, ← r2.length]; exact hz)
    obtain ⟨hp, g, d, tk, os⟩ := s
    exact ⟨.ref hp.objs.size, _, tup_laid (s := ⟨hp, g, d, tk, os⟩) (h' := hp) (t' := tk) I (r1.append r2) (by rw [List.length_append]; exact hz), rfl, q2 hx (fun w => z (r2.nil_iff.mpr w)) _ _ rfl (I.hok.fresh (Nat.le_refl _))⟩
end
end Kp
set_option Elab.async false
set_option linter.all false
set_option maxRecDepth 100000
set_option maxHeartbeats 2000000
namespace Kp
open PySem PyProof.Rows L2

section
variable {X : Cx} {cl : Nat → Addr} {W : WX} {pos : Pos}
theorem repL_nil_iff {K : PySem.W.Frag} {H : Hp} {vs : List V} {xs : List PV} (r : RepL K cl H vs xs) : vs = [] ↔ xs = [] := by
  cases r <;> simp
/-! ### + - * % // ** -/
def pAdd (x y : PV) : Option PV := match x, y with
  | .int i, .int j => some (.int (i + j))
  | .str a, .str b => if a.length + b.length ≤ sizeLine then some (.str (a ++ b)) else none
  | .tup a, .tup b => if a.length + b.length ≤ sizeLine then some (.tup (a ++ b)) else none
  | .lst a, .lst b => if a.length + b.length ≤ sizeLine then some (.lst (a ++ b)) else none
  | _, _ => none
theorem str_append_len (a b : Str) : (a ++ b).length = a.length + b.length := by
  obtain ⟨a⟩ := a
  obtain ⟨b⟩ := b
  show (a ++ b).size = a.size + b.size
  rw [Array.size_append]
theorem br_add : BinR X cl (binaryOp .Add) pAdd := by
  refine ⟨_, (op_add (X := X)).or (op_add_str.or (op_catF.or op_cat)), ?_⟩
  intro G H v u x y z Q e rv ru hz k
  unfold pAdd at hz
  cases x <;> cases y <;> try (cases hz; done)
  · cases hz
    cases rv
    cases ru
    exact .inl ⟨_, _, rfl, rfl, k _ _ (.inl ⟨rfl, .int _⟩)⟩
  · dsimp only at hz
    split at hz <;> try (cases hz; done)
    rename_i c
    cases hz
    cases rv
    cases ru
    exact .inr (.inl ⟨_, _, rfl, rfl, c, k _ _ (.inl ⟨rfl, .str _ (by rw [str_append_len]; exact c)⟩)⟩)
  · dsimp only at hz
    split at hz <;> try (cases hz; done)
    rename_i c
    cases hz
    cases rv with
    | @tup a1 vs1 xs1 hs z1 hr =>
      cases ru with
      | @tup a2 vs2 xs2 hs2 z2 hr2 =>
        have hz : (vs1 ++ vs2).length ≤ sizeLine := by rw [List.length_append, hr.length, hr2.length]; exact c
        refine .inr (.inr (.inl ⟨_, _, _, _, rfl, rfl, sqt_mono e hs, sqt_mono e hs2, by rw [hr.length, hr2.length]; exact c, fun z => ?_, fun z z2 => ?_, fun z z2 p o ho hp => ?_⟩))
        · have z' := (repL_nil_iff hr).mp z
          subst z'
          exact k _ _ (.inl ⟨rfl, .tup hs2 z2 hr2⟩)
        · have z' := (repL_nil_iff hr2).mp z2
          subst z'
          rw [List.append_nil] at k
          exact k _ _ (.inl ⟨rfl, .tup hs z1 hr⟩)
        · exact k _ _ (.inr ⟨p, _, hp, rfl, .tup (tupAt_new ho) hz ((hr.mono (same_new (e.free hp))).append (hr2.mono (same_new (e.free hp))))⟩)
  · dsimp only at hz
    split at hz <;> try (cases hz; done)
    rename_i c
    cases hz
    cases rv with
    | @lst a1 vs1 xs1 hs z1 hr =>
      cases ru with
      | @lst a2 vs2 xs2 hs2 z2 hr2 =>
        have hz : (vs1 ++ vs2).length ≤ sizeLine := by rw [List.length_append, hr.length, hr2.length]; exact c
        exact .inr (.inr (.inr ⟨_, _, _, _, rfl, rfl, e _ _ hs, e _ _ hs2, by rw [hr.length, hr2.length]; exact c, fun p hp => k _ _ (.inr ⟨p, _, hp, rfl, .lst upd_same hz ((hr.mono (same_new (e.free hp))).append (hr2.mono (same_new (e.free hp))))⟩)⟩))
def pSub (x y : PV) : Option PV := match x, y with
  | .int i, .int j => some (.int (i - j))
  | _, _ => none
theorem br_sub : BinR X cl (binaryOp .Sub) pSub := by
  refine ⟨_, op_sub, ?_⟩
  intro G H v u x y z Q e rv ru hz k
  unfold pSub at hz
  cases x <;> cases y <;> try (cases hz; done)
  cases hz
  cases rv
  cases ru
  exact ⟨_, _, rfl, rfl, k _ _ (.inl ⟨rfl, .int _⟩)⟩
/-- one factor small -/
def pMul (x y : PV) : Option PV := match x, y with
  | .int i, .int j => if (decide (-(2 ^ 64) < i) && decide (i < 2 ^ 64)) || (decide (-(2 ^ 64) < j) && decide (j < 2 ^ 64)) then some (.int (i * j)) else none
  | _, _ => none
theorem br_mul : BinR X cl (binaryOp .Mult) pMul := by
  refine ⟨_, op_mul, ?_⟩
  intro G H v u x y z Q e rv ru hz k
  unfold pMul at hz
  cases x <;> cases y <;> try (cases hz; done)
  dsimp only at hz
  split at hz <;> try (cases hz; done)
  rename_i c
  simp only [Bool.or_eq_true, Bool.and_eq_true, decide_eq_true_eq] at c
  cases hz
  cases rv
  cases ru
  exact ⟨_, _, rfl, rfl, c, k _ _ (.inl ⟨rfl, .int _⟩)⟩
def pMod (x y : PV) : Option PV := match x, y with
  | .int i, .int j => if 0 < j then some (.int (i % j)) else none
  | _, _ => none
theorem br_mod : BinR X cl (binaryOp .Mod) pMod := by
  refine ⟨_, op_mod, ?_⟩
  intro G H v u x y z Q e rv ru hz k
  unfold pMod at hz
  cases x <;> cases y <;> try (cases hz; done)
  dsimp only at hz
  split at hz <;> try (cases hz; done)
  rename_i c
  cases hz
  cases rv
  cases ru
  exact ⟨_, _, rfl, rfl, c, k _ _ (.inl ⟨rfl, .int _⟩)⟩
def pDiv (x y : PV) : Option PV := match x, y with
  | .int i, .int j => if 0 < j ∧ j < 1073741824 then some (.int (i / j)) else none
  | _, _ => none
theorem br_div : BinR X cl (binaryOp .FloorDiv) pDiv := by
  refine ⟨_, op_fdiv, ?_⟩
  intro G H v u x y z Q e rv ru hz k
  unfold pDiv at hz
  cases x <;> cases y <;> try (cases hz; done)
  dsimp only at hz
  split at hz <;> try (cases hz; done)
  rename_i c
  cases hz
  cases rv
  cases ru
  exact ⟨_, _, rfl, rfl, c, k _ _ (.inl ⟨rfl, .int _⟩)⟩
def pPow (x y : PV) : Option PV := match x, y with
  | .int i, .int j => if 0 ≤ j ∧ j ≤ 1000000 ∧ i.natAbs < 2 ^ 64 then some (.int (i ^ j.toNat)) else none
  | _, _ => none
theorem br_pow : BinR X cl (binaryOp .Pow) pPow := by
  refine ⟨_, op_pow, ?_⟩
  intro G H v u x y z Q e rv ru hz k
  unfold pPow at hz
  cases x <;> cases y <;> try (cases hz; done)
  dsimp only at hz
  split at hz <;> try (cases hz; done)
  rename_i c
  cases hz
  cases rv
  cases ru
  exact ⟨_, _, rfl, rfl, c, k _ _ (.inl ⟨rfl, .int _⟩)⟩
/-- -x -/
def pNeg (x : PV) : Option PV := match x with
  | .int i => some (.int (-i))
  | _ => none
def mUn (g : PV → Option PV) (m : M PV) : M PV := bnd m fun x => lift (g x)
theorem em_neg {a : Expr} {m : M PV} (h : EM X cl W a m) : EM X cl W (.UnaryOp .USub a pos) (mUn pNeg m) := by
  obtain ⟨t, p, d⟩ := h
  refine ⟨_, pe_un un_neg p, fun F G H σ S rr Q st hm hp => ?_⟩
  refine d.step st hm hp fun x S1 v G1 H1 hm1 s1 st1 rv hp1 => ?_
  obtain ⟨z, ez, rfl⟩ := lift_eq hm1
  unfold pNeg at ez
  cases x <;> try (cases ez; done)
  cases ez
  cases rv
  exact ⟨_, rfl, hp1 _ _ _ (Same.refl _) st1 (.int _)⟩

/-! ### x is None -/
def mIsN (n : Bool) (m : M PV) : M PV := bnd m fun x => ret (match x with
  | .non => .bl (!n)
  | _ => .bl n)
theorem rep_non {K : PySem.W.Frag} {H : Hp} {v : V} {x : PV} (r : Rep K cl H v x) : decide (v = V.non) = (match x with | .non => true | _ => false) := by
  cases r <;> rfl
theorem em_isN {a : Expr} {j p'} {m : M PV} (h : EM X cl W a m) : EM X cl W (.Compare a [.Is] [.Constant .none j p'] pos) (mIsN false m) := by
  obtain ⟨t, p, d⟩ := h
  refine ⟨_, pe_cmp (pc_isN p), fun F G H σ S rr Q st hm hp => ?_⟩
  refine d.step st hm hp fun x S1 v G1 H1 hm1 s1 st1 rv hp1 => ?_
  cases hm1
  rw [rep_non rv]
  refine hp1 _ _ _ (Same.refl _) st1 ?_
  cases x <;> exact .bl _
theorem em_notN {a : Expr} {j p'} {m : M PV} (h : EM X cl W a m) : EM X cl W (.Compare a [.IsNot] [.Constant .none j p'] pos) (mIsN true m) := by
  obtain ⟨t, p, d⟩ := h
  refine ⟨_, pe_cmp (pc_notN p), fun F G H σ S rr Q st hm hp => ?_⟩
  refine d.step st hm hp fun x S1 v G1 H1 hm1 s1 st1 rv hp1 => ?_
  cases hm1
  rw [rep_non rv]
  refine hp1 _ _ _ (Same.refl _) st1 ?_
  cases x <;> exact .bl _

/-! ### tests -/
theorem does_tB {t : TE} {m : M PV} (d : Does X.K cl W (RV X.K cl) t m) : Does X.K cl W RB (tB t) (mTest m) := by
  intro F G H σ S rr Q st hm hp
  refine d.step (R2 := RB) st hm hp fun y S1 v G1 H1 hm1 s1 st1 rv hp1 => ?_
  cases y <;> simp only [asB] at hm1 <;> try (cases hm1; done)
  cases hm1
  cases rv
  exact ⟨_, rfl, hp1 _ _ _ (Same.refl _) st1 rfl⟩
theorem tm_isN {a : Expr} {j p'} {m : M PV} (h : EM X cl W a m) : TM X cl W (.Compare a [.Is] [.Constant .none j p'] pos) (mTest (mIsN false m)) := by
  obtain ⟨t, p, d⟩ := h
  refine ⟨_, pt_cmp (pc_isN p), does_tB fun F G H σ S rr Q st hm hp => ?_⟩
  refine d.step st hm hp fun x S1 v G1 H1 hm1 s1 st1 rv hp1 => ?_
  cases hm1
  rw [rep_non rv]
  refine hp1 _ _ _ (Same.refl _) st1 ?_
  cases x <;> exact .bl _
theorem tm_notN {a : Expr} {j p'} {m : M PV} (h : EM X cl W a m) : TM X cl W (.Compare a [.IsNot] [.Constant .none j p'] pos) (mTest (mIsN true m)) := by
  obtain ⟨t, p, d⟩ := h
  refine ⟨_, pt_cmp (pc_notN p), does_tB fun F G H σ S rr Q st hm hp => ?_⟩
  refine d.step st hm hp fun x S1 v G1 H1 hm1 s1 st1 rv hp1 => ?_
  cases hm1
  rw [rep_non rv]
  refine hp1 _ _ _ (Same.refl _) st1 ?_
  cases x <;> exact .bl _
/-- an expression's truth as a test: its value is a bool -/
theorem tm_val {e : Expr} {m : M PV} (h : EM X cl W e m) (he : ∀ whole, isTrue e X.env whole = (do let v ← whole; standAt e.pos; holding [v] (truthy v)) := by intro _; rfl) : TM X cl W e (mTest m) := by
  obtain ⟨t, p, d⟩ := h
  exact ⟨_, pt_val p he, does_tB d⟩
/-- a value's truth -/
def truP : PV → Option Bool
  | .non => some false
  | .bl b => some b
  | .int i => some (i != 0)
  | .str x => some ((x.length : Int) != 0)
  | .tup xs => some (!xs.isEmpty)
  | .lst xs => some (!xs.isEmpty)
  | .frl xs => some (!xs.isEmpty)
  | .dct kvs => some (!kvs.isEmpty)
  | .obj _ _ => none
  | .glb _ => none
  | .xo _ _ _ _ => none
  | .raw _ => none
theorem repL_empty {K : PySem.W.Frag} {H : Hp} {vs : List V} {xs : List PV} (r : RepL K cl H vs xs) : vs.isEmpty = xs.isEmpty := by cases r <;> rfl
theorem repK_empty {K : PySem.W.Frag} {H : Hp} {vs : List (Key × V)} {xs : List (PV × PV)} (r : RepK K cl H vs xs) : vs.isEmpty = xs.isEmpty := by cases r <;> rfl
theorem tru_rep {K : PySem.W.Frag} {H : Hp} {v : V} {x : PV} {b : Bool} (r : Rep K cl H v x) (h : truP x = some b) : TruV K v H b := by
  unfold truP at h
  cases r <;> try (cases h; done)
  all_goals try cases h
  · exact rfl
  · exact rfl
  · exact rfl
  · rename_i x h
    exact ⟨h, rfl⟩
  · rename_i a ns h
    exact .inl ⟨_, h, by simp⟩
  · rename_i a vs xs hs z hr
    exact .inr (.inl ⟨_, hs.sq, by rw [repL_empty hr]⟩)
  · rename_i a vs xs hs z hr
    exact .inl ⟨_, SqL.of hs, by rw [repL_empty hr]⟩
  · rename_i a vs xs hs hr
    exact .inr (.inr ⟨_, hs, by rw [repK_empty hr]⟩)
def mTru (m : M PV) : M Bool := bnd m fun x => lift (truP x)
theorem tm_tru {e : Expr} {m : M PV} (h : EM X cl W e m) (he : ∀ whole, isTrue e X.env whole = (do let v ← whole; standAt e.pos; holding [v] (truthy v)) := by intro _; rfl) : TM X cl W e (mTru m) := by
  obtain ⟨t, p, d⟩ := h
  refine ⟨_, pt_truth p he, fun F G H σ S rr Q st hm hp => ?_⟩
  refine d.step (R2 := RB) st hm hp fun y S1 v G1 H1 hm1 s1 st1 rv hp1 => ?_
  obtain ⟨z, ez, rfl⟩ := lift_eq hm1
  exact ⟨z, tru_rep (rv.mono st1.ex) ez, hp1 _ _ _ (Same.refl _) st1 rfl⟩
/-- not, and, or of tests -/
def mNot (m : M Bool) : M Bool := bnd m fun b => ret (!b)
def mAnd (m n : M Bool) : M Bool := bnd m fun b => if b = true then n else ret false
def mOr (m n : M Bool) : M Bool := bnd m fun b => if b = true then ret true else n
theorem tm_not {a : Expr} {m : M Bool} (h : TM X cl W a m) : TM X cl W (.UnaryOp .Not a pos) (mNot m) := by
  obtain ⟨t, p, d⟩ := h
  refine ⟨_, pt_not p, fun F G H σ S rr Q st hm hp => ?_⟩
  refine d.step (R2 := RB) st hm hp fun y S1 v G1 H1 hm1 s1 st1 rv hp1 => ?_
  cases hm1
  cases rv
  exact hp1 _ _ _ (Same.refl _) st1 rfl
def WM (X : Cx) (cl : Nat → Addr) (W : WX) (e : Expr) (m : M Bool) : Prop := ∃ t, PW X e t ∧ Does X.K cl W RB t m
theorem tm_w {e : Expr} {m : M Bool} (h : WM X cl W e m) : TM X cl W e m := by
  obtain ⟨t, p, d⟩ := h
  exact ⟨t, p.pt, d⟩
theorem wm_and1 {a : Expr} {m : M Bool} (h : TM X cl W a m) : WM X cl W (.BoolOp .And [a] pos) m := by
  obtain ⟨t, p, d⟩ := h
  exact ⟨t, pw_and1 p, d⟩
theorem wm_or1 {a : Expr} {m : M Bool} (h : TM X cl W a m) : WM X cl W (.BoolOp .Or [a] pos) m := by
  obtain ⟨t, p, d⟩ := h
  exact ⟨t, pw_or1 p, d⟩
theorem wm_and {a b : Expr} {rest : List Expr} {m n : M Bool} (h : TM X cl W a m) (h2 : WM X cl W (.BoolOp .And (b :: rest) pos) n) : WM X cl W (.BoolOp .And (a :: b :: rest) pos) (mAnd m n) := by
  obtain ⟨t, p, d⟩ := h
  obtain ⟨u, q, du⟩ := h2
  refine ⟨_, pw_and p q, fun F G H σ S rr Q st hm hp => ?_⟩
  refine d.step (R2 := RB) st hm hp fun y S1 v G1 H1 hm1 s1 st1 rv hp1 => ?_
  cases rv
  cases y with
  | true => exact du F G1 H1 σ S1 _ _ st1 hm1 hp1
  | false =>
    cases hm1
    exact hp1 _ _ _ (Same.refl _) st1 rfl
theorem wm_or {a b : Expr} {rest : List Expr} {m n : M Bool} (h : TM X cl W a m) (h2 : WM X cl W (.BoolOp .Or (b :: rest) pos) n) : WM X cl W (.BoolOp .Or (a :: b :: rest) pos) (mOr m n) := by
  obtain ⟨t, p, d⟩ := h
  obtain ⟨u, q, du⟩ := h2
  refine ⟨_, pw_or p q, fun F G H σ S rr Q st hm hp => ?_⟩
  refine d.step (R2 := RB) st hm hp fun y S1 v G1 H1 hm1 s1 st1 rv hp1 => ?_
  cases rv
  cases y with
  | false => exact du F G1 H1 σ S1 _ _ st1 hm1 hp1
  | true =>
    cases hm1
    exact hp1 _ _ _ (Same.refl _) st1 rfl
/-- not, and, or as values that are bools -/
def mB (m : M Bool) : M PV := bnd m fun b => ret (.bl b)
theorem em_one {op : BoolOp} {a : Expr} {m : M PV} (h : EM X cl W a m) : EM X cl W (.BoolOp op [a] pos) (mB (mTest m)) := by
  obtain ⟨t, p, d⟩ := h
  refine ⟨_, pe_one p, fun F G H σ S rr Q st hm hp => ?_⟩
  have e : m S = some rr := by
    rcases bnd_some hm with ⟨b, S1, e1, e2⟩ | ⟨c, fs, S1, e1, e2⟩
    · rcases bnd_some e1 with ⟨x, S2, e3, e4⟩ | ⟨c, fs, S2, e3, e4⟩
      · cases x <;> try (cases e4; done)
        cases e4
        cases e2
        exact e3
      · cases e4
    · subst e2
      rcases bnd_some e1 with ⟨x, S2, e3, e4⟩ | ⟨c', fs', S2, e3, e4⟩
      · cases x <;> try (cases e4; done)
      · cases e4
        exact e3
  exact d F G H σ S rr Q st e hp
theorem em_and {a b : Expr} {rest : List Expr} {m : M PV} {n : M Bool} (h : EM X cl W a m) (h2 : EM X cl W (.BoolOp .And (b :: rest) pos) (mB n)) : EM X cl W (.BoolOp .And (a :: b :: rest) pos) (mB (mAnd (mTest m) n)) := by
  obtain ⟨t, p, d⟩ := h
  obtain ⟨u, q, du⟩ := h2
  refine ⟨_, pe_and p q, fun F G H σ S rr Q st hm hp => ?_⟩
  have hm' : bnd m (fun x => bnd (asB x) fun b => if b = true then mB n else ret (.bl false)) S = some rr := by
    rw [← hm]
    unfold mB mAnd mTest bnd
    cases m S with
    | none => rfl
    | some r => cases r with
      | ok y S1 => cases y <;> try rfl
                   rename_i b
                   cases b <;> rfl
      | ex c fs S1 => rfl
  refine d.step st hm' hp fun y S1 v G1 H1 hm1 s1 st1 rv hp1 => ?_
  cases y <;> try (cases hm1; done)
  rename_i b
  cases rv
  refine ⟨b, rfl, ?_⟩
  cases b with
  | true => exact du F G1 H1 σ S1 _ _ st1 hm1 hp1
  | false =>
    cases hm1
    exact hp1 _ _ _ (Same.refl _) st1 (.bl _)
theorem em_or {a b : Expr} {rest : List Expr} {m : M PV} {n : M Bool} (h : EM X cl W a m) (h2 : EM X cl W (.BoolOp .Or (b :: rest) pos) (mB n)) : EM X cl W (.BoolOp .Or (a :: b :: rest) pos) (mB (mOr (mTest m) n)) := by
  obtain ⟨t, p, d⟩ := h
  obtain ⟨u, q, du⟩ := h2
  refine ⟨_, pe_or p q, fun F G H σ S rr Q st hm hp => ?_⟩
  have hm' : bnd m (fun x => bnd (asB x) fun b => if b = true then ret (.bl true) else mB n) S = some rr := by
    rw [← hm]
    unfold mB mOr mTest bnd
    cases m S with
    | none => rfl
    | some r => cases r with
      | ok y S1 => cases y <;> try rfl
                   rename_i b
                   cases b <;> rfl
      | ex c fs S1 => rfl
  refine d.step st hm' hp fun y S1 v G1 H1 hm1 s1 st1 rv hp1 => ?_
  cases y <;> try (cases hm1; done)
  rename_i b
  cases rv
  refine ⟨b, rfl, ?_⟩
  cases b with
  | false => exact du F G1 H1 σ S1 _ _ st1 hm1 hp1
  | true =>
    cases hm1
    exact hp1 _ _ _ (Same.refl _) st1 (.bl _)
theorem em_not {a : Expr} {m : M PV} (h : EM X cl W a m) : EM X cl W (.UnaryOp .Not a pos) (mB (mNot (mTest m))) := by
  obtain ⟨t, p, d⟩ := h
  refine ⟨_, pe_not p, fun F G H σ S rr Q st hm hp => ?_⟩
  have hm' : bnd m (fun x => bnd (asB x) fun b => ret (.bl (!b))) S = some rr := by
    rw [← hm]
    unfold mB mNot mTest bnd
    cases m S with
    | none => rfl
    | some r => cases r with
      | ok y S1 => cases y <;> rfl
      | ex c fs S1 => rfl
  refine d.step st hm' hp fun y S1 v G1 H1 hm1 s1 st1 rv hp1 => ?_
  cases y <;> try (cases hm1; done)
  rename_i b
  cases rv
  cases hm1
  exact ⟨b, rfl, hp1 _ _ _ (Same.refl _) st1 (.bl _)⟩
/-- a if t else b -/
def mIfE (c : M Bool) (m n : M PV) : M PV := bnd c fun b => if b = true then m else n
theorem em_ife {c a b : Expr} {mc : M Bool} {m n : M PV} (hc : TM X cl W c mc) (ha : EM X cl W a m) (hb : EM X cl W b n) : EM X cl W (.IfExp c a b pos) (mIfE mc m n) := by
  obtain ⟨tc, pc, dc⟩ := hc
  obtain ⟨ta, pa, da⟩ := ha
  obtain ⟨tb, pb, db⟩ := hb
  refine ⟨_, pe_ifExp pc pa pb, fun F G H σ S rr Q st hm hp => ?_⟩
  refine dc.step (R2 := RV X.K cl) st hm hp fun y S1 v G1 H1 hm1 s1 st1 rv hp1 => ?_
  cases rv
  cases y with
  | true => exact da F G1 H1 σ S1 _ _ st1 hm1 hp1
  | false => exact db F G1 H1 σ S1 _ _ st1 hm1 hp1
/-- a op b op' c -/
def mChain (g g' : PV → PV → Option PV) (ma mb mc : M PV) : M PV := bnd ma fun x => bnd mb fun y => bnd (lift (g x y)) fun z => bnd (asB z) fun b => if b = true then bnd mc fun u => lift (g' y u) else ret (.bl false)
theorem does_chain {g g' : PV → PV → Option PV} {r r' : R2} {ta tb tc : TE} {ma mb mc : M PV} (hr : BinS X.K cl r g) (hr' : BinS X.K cl r' g') (h1 : Does X.K cl W (RV X.K cl) ta ma) (h2 : Does X.K cl W (RV X.K cl) tb mb) (h3 : Does X.K cl W (RV X.K cl) tc mc) :
    Does X.K cl W (RV X.K cl) (tChain r r' ta tb tc) (mChain g g' ma mb mc) := by
  intro F G H σ S rr Q st hm hp
  refine h1.step st hm hp fun x S1 v G1 H1 hm1 s1 st1 rv hp1 => ?_
  refine h2.step st1 hm1 hp1 fun y S2 u G2 H2 hm2 s2 st2 ru hp2 => ?_
  obtain ⟨z, ez, hm3⟩ := lift_bnd hm2
  cases z <;> try (cases hm3; done)
  rename_i b
  refine hr G2 H2 v u x y _ _ st2.ex (rv.mono s2) ru ez fun w H' q => ?_
  obtain ⟨G3, s3, st3, r3⟩ := st2.res1 q
  cases r3
  refine ⟨b, rfl, ?_⟩
  have hp3 := hp2.mono s3
  cases b with
  | false =>
    cases hm3
    exact hp3 _ _ _ (Same.refl _) st3 (.bl _)
  | true =>
    rw [if_pos rfl]
    refine h3.step st3 hm3 hp3 fun c S4 w' G4 H4 hm4 s4 st4 rw' hp4 => ?_
    obtain ⟨z, ez, rfl⟩ := lift_eq hm4
    exact hr' G4 H4 u w' y c z Q st4.ex ((ru.mono s3).mono s4) rw' ez fun w H' q => hp4.res1 st4 q
theorem em_chain {op op' : CmpOp} {a b c : Expr} {g g' : PV → PV → Option PV} {ma mb mc : M PV} (hb : BinR X cl (compareOp op) g) (hb2 : BinR X cl (compareOp op') g') (h1 : EM X cl W a ma) (h2 : EM X cl W b mb) (h3 : EM X cl W c mc)
    (hm : lastMarks [op, op'] [b, c] = false := by with_unfolding_all rfl) : EM X cl W (.Compare a [op, op'] [b, c] pos) (mChain g g' ma mb mc) := by
  obtain ⟨ta, pa, da⟩ := h1
  obtain ⟨tb, pb, db⟩ := h2
  obtain ⟨tc, pc, dc⟩ := h3
  obtain ⟨r, ho, hs⟩ := hb
  obtain ⟨r', ho', hs'⟩ := hb2
  exact ⟨_, pe_chain ho ho' pa pb pc hm, does_chain hs hs' da db dc⟩
theorem tm_chain {op op' : CmpOp} {a b c : Expr} {g g' : PV → PV → Option PV} {ma mb mc : M PV} (hb : BinR X cl (compareOp op) g) (hb2 : BinR X cl (compareOp op') g') (h1 : EM X cl W a ma) (h2 : EM X cl W b mb) (h3 : EM X cl W c mc)
    (hm : lastMarks [op, op'] [b, c] = false := by with_unfolding_all rfl) : TM X cl W (.Compare a [op, op'] [b, c] pos) (mTest (mChain g g' ma mb mc)) := by
  obtain ⟨ta, pa, da⟩ := h1
  obtain ⟨tb, pb, db⟩ := h2
  obtain ⟨tc, pc, dc⟩ := h3
  obtain ⟨r, ho, hs⟩ := hb
  obtain ⟨r', ho', hs'⟩ := hb2
  exact ⟨_, pt_chain ho ho' pa pb pc hm, does_test (does_chain hs hs' da db dc)⟩

/-! ### argument lists, displays -/
def mArgs : List (M PV) → M (List PV)
  | [] => ret []
  | m :: ms => bnd m fun x => bnd (mArgs ms) fun xs => ret (x :: xs)
theorem am_nil : AM X cl W [] (mArgs []) := ⟨_, pa_nil, fun F G H σ S rr Q st hm hp => by
  cases hm
  exact hp _ _ _ (Same.refl _) st .nil⟩
theorem am_cons {e : Expr} {es : List Expr} {m : M PV} {ms : List (M PV)} (h : EM X cl W e m) (hr : AM X cl W es (mArgs ms)) (hs : starEach (e :: es) X.env = (false, eval e X.env) :: starEach es X.env := by rfl) : AM X cl W (e :: es) (mArgs (m :: ms)) := by
  obtain ⟨t, p, d⟩ := h
  obtain ⟨u, q, du⟩ := hr
  refine ⟨_, pa_cons p q hs, fun F G H σ S rr Q st hm hp => ?_⟩
  refine d.step (R2 := RL X.K cl) st hm hp fun y S1 v G1 H1 hm1 s1 st1 rv hp1 => ?_
  refine du.step (R2 := RL X.K cl) st1 hm1 hp1 fun ys S2 vs G2 H2 hm2 s2 st2 rvs hp2 => ?_
  cases hm2
  exact hp2 _ _ _ (Same.refl _) st2 (.cons (rv.mono s2) rvs)
def mTup (ms : List (M PV)) : M PV := bnd (mArgs ms) fun xs => ret (.tup xs)
theorem mArgs_len : ∀ {ms : List (M PV)} {S S' : Sto} {xs : List PV}, mArgs ms S = some (.ok xs S') → xs.length = ms.length
  | [], _, _, _, h => by cases h; rfl
  | m :: ms, S, S', xs, h => by
    rcases bnd_some h with ⟨x, S1, e1, e2⟩ | ⟨c, fs, S1, _, e2⟩
    · rcases bnd_some e2 with ⟨ys, S2, e3, e4⟩ | ⟨c, fs, S2, _, e4⟩
      · cases e4
        rw [List.length_cons, List.length_cons, mArgs_len e3]
      · cases e4
    · cases e2
theorem Does.step' {α β γ δ : Type} {K : PySem.W.Frag} {F : Fr} {G H : Hp} {σ : L2.St} {S : Sto} {R1 : Hp → β → α → Prop} {R2 : Hp → δ → γ → Prop} {t1 : L2.St → Hp → (β → Hp → Prop) → Prop} {m1 : M α} {k : α → M γ} {r : Rs γ} {Q1 : β → Hp → Prop} {Q2 : δ → Hp → Prop}
    (h1 : Does K cl W R1 t1 m1) (st : StOk K cl F G H σ S) (hm : bnd m1 k S = some r) (hp : Post K cl R2 F W G σ Q2 r)
    (hk : ∀ (y : α) (S1 : Sto) (v : β) (G1 H1 : Hp), m1 S = some (.ok y S1) → k y S1 = some r → Same G G1 → StOk K cl F G1 H1 σ S1 → R1 G1 v y → Post K cl R2 F W G1 σ Q2 r → Q1 v H1) : t1 σ H Q1 := by
  unfold bnd at hm
  cases e : m1 S with
  | none =>
    rw [e] at hm
    cases hm
  | some r1 =>
    rw [e] at hm
    cases r1 with
    | ok y S1 =>
      refine h1 F G H σ S _ Q1 st e ?_
      exact fun v G1 H1 s k1 x => hk y S1 v G1 H1 e hm s k1 x (hp.mono s)
    | ex c fs S1 =>
      have hm' : Rs.ex c fs S1 = r := Option.some.inj hm
      subst hm'
      exact h1 F G H σ S _ Q1 st e hp
theorem em_tup {es : List Expr} {ms : List (M PV)} {x1} (h : AM X cl W es (mArgs ms)) (hl : ms.length ≤ 1000 := by decide) : EM X cl W (.Tuple es x1 pos) (mTup ms) := by
  obtain ⟨t, p, d⟩ := h
  refine ⟨_, pe_tupF p, fun F G H σ S rr Q st hm hp => ?_⟩
  refine d.step' (R2 := RV X.K cl) st hm hp fun y S1 v G1 H1 e1 hm1 s1 st1 rv hp1 => ?_
  cases hm1
  have hz : v.length ≤ sizeLine := by
    rw [rv.length, mArgs_len e1]
    exact Nat.le_trans hl (by decide)
  exact ⟨hz, fun p o ho hn => hp1.res1 st1 (.inr ⟨p, _, hn, rfl, .tup (tupAt_new ho) hz (rv.mono (same_new (st1.free hn)))⟩)⟩
def mLst (ms : List (M PV)) : M PV := bnd (mArgs ms) fun xs => ret (.lst xs)
theorem em_lst {es : List Expr} {ms : List (M PV)} (h : AM X cl W es (mArgs ms)) (hl : ms.length ≤ 1000 := by decide) : EM X cl W (.List es pos) (mLst ms) := by
  obtain ⟨t, p, d⟩ := h
  refine ⟨_, pe_lst p, fun F G H σ S rr Q st hm hp => ?_⟩
  refine d.step' (R2 := RV X.K cl) st hm hp fun y S1 v G1 H1 e1 hm1 s1 st1 rv hp1 => ?_
  cases hm1
  have hz : v.length ≤ sizeLine := by
    rw [rv.length, mArgs_len e1]
    exact Nat.le_trans hl (by decide)
  exact ⟨hz, fun p hn => hp1.res1 st1 (.inr ⟨p, _, hn, rfl, .lst upd_same hz (rv.mono (same_new (st1.free hn)))⟩)⟩

/-! ### x[i], x[a:b], o.f -/
def pIdx (x i : PV) : Option PV := match x, i with
  | .tup xs, .int k => atI xs k
  | .lst xs, .int k => atI xs k
  | .frl ns, .int k => (atI ns k).map PV.int
  | .str z, .int k => (atI z.cps.toList k).map fun c => .str ⟨#[c]⟩
  | _, _ => none
theorem atI_rep {K : PySem.W.Frag} {H : Hp} {vs : List V} {xs : List PV} {k : Int} {x : PV} (r : RepL K cl H vs xs) (h : atI xs k = some x) : ∃ v, atI vs k = some v ∧ Rep K cl H v x := by
  unfold atI at h ⊢
  rw [r.length]
  cases e : ixN xs.length k with
  | none => rw [e] at h; cases h
  | some j =>
    rw [e] at h
    exact r.get h
theorem atI_map {α β : Type} {f : α → β} {xs : List α} {k : Int} : atI (xs.map f) k = (atI xs k).map f := by
  unfold atI
  rw [List.length_map]
  cases ixN xs.length k with
  | none => rfl
  | some j => exact List.getElem?_map
theorem bs_idx : BinS X.K cl (rIx X.K) pIdx := by
  intro G H v u x y z Q e rv ru hz k
  unfold pIdx at hz
  cases x <;> cases y <;> try (cases hz; done)
  · rename_i zs i
    cases rv with
    | str _ hl =>
      cases ru
      dsimp only at hz
      cases q : atI zs.cps.toList i with
      | none => rw [q] at hz; cases hz
      | some c =>
        rw [q] at hz
        cases hz
        exact .inr (.inr ⟨_, _, c, rfl, rfl, hl, q, k _ _ (.inl ⟨rfl, .str _ (by show 1 ≤ sizeLine; decide)⟩)⟩)
  · cases rv with
    | tup hs _ hr =>
      cases ru
      obtain ⟨w, ew, rw'⟩ := atI_rep hr hz
      exact .inr (.inl ⟨_, _, _, w, rfl, rfl, sqt_mono e hs, ew, k _ _ (.inl ⟨rfl, rw'⟩)⟩)
  · cases rv with
    | lst hs _ hr =>
      cases ru
      obtain ⟨w, ew, rw'⟩ := atI_rep hr hz
      exact .inl ⟨_, _, _, w, rfl, rfl, SqL.of (e _ _ hs), ew, k _ _ (.inl ⟨rfl, rw'⟩)⟩
  · rename_i ns i
    cases rv with
    | frl hs =>
      cases ru
      dsimp only at hz
      cases q : atI ns i with
      | none => rw [q] at hz; cases hz
      | some c =>
        rw [q] at hz
        cases hz
        exact .inl ⟨_, _, _, .int c, rfl, rfl, e.seq hs, by rw [atI_map, q]; rfl, k _ _ (.inl ⟨rfl, .int _⟩)⟩
theorem em_idx {a b : Expr} {ma mb : M PV} (ha : EM X cl W a ma) (hb : EM X cl W b mb) (hs : PlainIx b := by exact fun _ _ => rfl) : EM X cl W (.Subscript a b pos) (mBin pIdx ma mb) := by
  obtain ⟨ta, pa, da⟩ := ha
  obtain ⟨tb, pb, db⟩ := hb
  exact ⟨_, pe_ix ix_seq pa pb hs, does_bin bs_idx da db⟩
end
end Kp
set_option Elab.async false
set_option linter.all false
set_option maxRecDepth 100000
set_option maxHeartbeats 2000000
namespace Kp
open PySem PyProof.Rows L2

section
variable {X : Cx} {cl : Nat → Addr} {W : WX} {pos : Pos}
/-! ### x[a:b] -/
def cutL {α : Type} (xs : List α) (lo hi : Option Int) : List α := (xs.drop (HT.sIx xs.length 0 lo)).take (HT.sIx xs.length xs.length hi - HT.sIx xs.length 0 lo)
def pSl (x : PV) (lo hi : Option Int) : Option PV := match x with
  | .tup xs => some (.tup (cutL xs lo hi))
  | .lst xs => some (.lst (cutL xs lo hi))
  | .frl ns => if (cutL ns lo hi).length ≤ sizeLine then some (.lst ((cutL ns lo hi).map PV.int)) else none
  | .str z => some (.str (cutS z lo hi))
  | _ => none
theorem repL_cut {K : PySem.W.Frag} {H : Hp} {vs : List V} {xs : List PV} (r : RepL K cl H vs xs) (lo hi : Option Int) : RepL K cl H (cutV vs lo hi) (cutL xs lo hi) := by
  unfold cutV cutL
  rw [r.length]
  exact (r.drop _).take _
theorem cutL_map {α β : Type} {f : α → β} {xs : List α} {lo hi : Option Int} : cutL (xs.map f) lo hi = (cutL xs lo hi).map f := by
  unfold cutL
  rw [List.length_map, List.map_take, List.map_drop]
theorem cutV_ints {ns : List Int} {lo hi : Option Int} : cutV (ns.map V.int) lo hi = (cutL ns lo hi).map V.int := cutL_map (f := V.int)
theorem cutL_whole {α : Type} {xs : List α} {lo hi : Option Int} (h1 : HT.sIx xs.length 0 lo = 0) (h2 : HT.sIx xs.length xs.length hi = xs.length) : cutL xs lo hi = xs := by
  unfold cutL
  rw [h1, h2]
  simp
/-- an optional bound of a slice -/
def OM (X : Cx) (cl : Nat → Addr) (W : WX) (e : Option Expr) (m : M (Option Int)) : Prop :=
  ∃ t, PO X e t ∧ Does X.K cl W (fun _ v x => v = x) t m
def mNoB : M (Option Int) := ret none
def mBd (m : M PV) : M (Option Int) := bnd m fun x => match x with
  | .int i => ret (some i)
  | _ => fun _ => none
theorem om_none : OM X cl W none mNoB := ⟨_, po_none, fun F G H σ S rr Q st hm hp => by
  cases hm
  exact hp _ _ _ (Same.refl _) st rfl⟩
theorem om_some {e : Expr} {m : M PV} (h : EM X cl W e m) : OM X cl W (some e) (mBd m) := by
  obtain ⟨t, p, d⟩ := h
  refine ⟨_, po_some p, fun F G H σ S rr Q st hm hp => ?_⟩
  refine d.step (R2 := fun _ v x => v = x) st hm hp fun y S1 v G1 H1 hm1 s1 st1 rv hp1 => ?_
  cases y <;> try (cases hm1; done)
  cases hm1
  cases rv
  exact ⟨_, rfl, hp1 _ _ _ (Same.refl _) st1 rfl⟩
def mSl (m : M PV) (lo hi : M (Option Int)) : M PV := bnd m fun x => bnd lo fun a => bnd hi fun b => lift (pSl x a b)
theorem em_sl {e : Expr} {lo hi : Option Expr} {m : M PV} {ml mh : M (Option Int)} {p2 : Pos} (he : EM X cl W e m) (hl : OM X cl W lo ml) (hh : OM X cl W hi mh) : EM X cl W (.Subscript e (.Slice lo hi none p2) pos) (mSl m ml mh) := by
  obtain ⟨t, p, d⟩ := he
  obtain ⟨tl, pl, dl⟩ := hl
  obtain ⟨th, ph, dh⟩ := hh
  refine ⟨_, pe_slice (sl_list.or (sl_tupF.or sl_str)) p pl ph, fun F G H σ S rr Q st hm hp => ?_⟩
  refine d.step st hm hp fun x S1 v G1 H1 hm1 s1 st1 rv hp1 => ?_
  refine dl.step st1 hm1 hp1 fun a S2 a' G2 H2 hm2 s2 st2 ra hp2 => ?_
  subst ra
  refine dh.step st2 hm2 hp2 fun b S3 b' G3 H3 hm3 s3 st3 rb hp3 => ?_
  subst rb
  obtain ⟨z, ez, rfl⟩ := lift_eq hm3
  have r3 := (rv.mono s2).mono s3
  unfold pSl at ez
  cases x <;> try (cases ez; done)
  · cases ez
    cases r3 with
    | str _ hl => exact .inr (.inr ⟨_, rfl, hl, hp3.res1 st3 (.inl ⟨rfl, .str _ (Nat.le_trans (cutS_length _ _ _) hl)⟩)⟩)
  · cases ez
    cases r3 with
    | tup hs hz hr =>
      refine .inr (.inl ⟨_, _, rfl, sqt_mono st3.ex hs, fun z => hp3.res1 st3 (.inl ⟨rfl, ?_⟩), fun _ p o ho hn => hp3.res1 st3 (.inr ⟨p, _, hn, rfl, .tup (tupAt_new ho) (Nat.le_trans (cutV_length _ _ _) hz) ((repL_cut hr _ _).mono (same_new (st3.free hn)))⟩)⟩)
      have hl := hr.length
      rw [hl] at z
      rw [cutL_whole z.1 z.2]
      exact .tup hs hz hr
  · cases ez
    cases r3 with
    | lst hs hz hr => exact .inl ⟨_, _, rfl, SqL.of (st3.ex _ _ hs), fun p hn => hp3.res1 st3 (.inr ⟨p, _, hn, rfl, .lst upd_same (Nat.le_trans (cutV_length _ _ _) hz) ((repL_cut hr _ _).mono (same_new (st3.free hn)))⟩)⟩
  · dsimp only at ez
    split at ez <;> try (cases ez; done)
    rename_i c
    cases ez
    cases r3 with
    | frl hs => exact .inl ⟨_, _, rfl, st3.ex.seq hs, fun p hn => hp3.res1 st3 (.inr ⟨p, _, hn, rfl, .lst upd_same (by rw [cutV_ints, List.length_map]; exact c) (by rw [cutV_ints]; exact repL_ints _)⟩)⟩

/-! ### o.f -/
def pFld (c : Nat) (f : Str) (x : PV) : Option PV := match x with
  | .obj d fs => if d = c then fs.lookup f else none
  | _ => none
theorem em_fld {e : Expr} {c : Nat} {f : Str} {m : M PV} (he : EM X cl W e m) (hc : Cls X.K (cl c)) (hn : NoAttr X.K (cl c) f) (hb : attributeBase e f X.env (eval e X.env) = eval e X.env := by rfl) : EM X cl W (.Attribute e f pos) (mUn (pFld c f) m) := by
  obtain ⟨t, p, d⟩ := he
  refine ⟨_, pe_fld p hb, fun F G H σ S rr Q st hm hp => ?_⟩
  refine d.step st hm hp fun x S1 v G1 H1 hm1 s1 st1 rv hp1 => ?_
  obtain ⟨z, ez, rfl⟩ := lift_eq hm1
  unfold pFld at ez
  cases x <;> try (cases ez; done)
  dsimp only at ez
  split at ez <;> try (cases ez; done)
  rename_i q
  subst q
  cases rv with
  | obj hs hr =>
    obtain ⟨w, ew, rw'⟩ := hr.lookup ez
    exact ⟨_, _, _, _, w, rfl, st1.ex _ _ hs, hc, hn, ew, hp1 _ _ _ (Same.refl _) st1 rw'⟩

/-! ### calls -/
def roM : Option RO → M PV
  | some (.ret y) => ret y
  | some (.exc c fs) => fun S => some (.ex c fs S)
  | none => fun _ => none
def mCall (f : List PV → Option RO) (ms : List (M PV)) : M PV := bnd (mArgs ms) fun xs => roM (f xs)
/-- what a promise is worth to a caller -/
theorem spP_use {F : Fr} {G H : Hp} {σ : L2.St} {S : Sto} {n : Nat} {f : List PV → Option RO} {vs : List V} {xs : List PV} {Q : VK} {r : Rs PV} (st : StOk X.K cl F G H σ S) (rl : RepL X.K cl G vs xs) (hl : vs.length = n) (hm : roM (f xs) S = some r) (hp : Post X.K cl (RV X.K cl) F W G σ Q r) :
    spP X.K cl n f vs H Q (WE W σ) := by
  refine ⟨hl, G, xs, ?_⟩
  cases e : f xs with
  | none => rw [e] at hm; cases hm
  | some ro =>
    rw [e] at hm
    refine ⟨ro, st.ex, rl, rfl, ?_⟩
    cases ro with
    | ret y =>
      cases hm
      exact fun v G' H' g r' => hp v G' H' g.g (st.grown g) r'
    | exc c fs =>
      cases hm
      exact fun d gs G' H' g a b => hp d gs G' H' g.g (st.grown g) ⟨a.1, st.free0 a.2, st.rfree a.2⟩ b
theorem em_call {x : Str} {k : Nat} {f : Addr} {fd : FuncData} {ps : List Str} {n : Nat} {g : List PV → Option RO} {p : Pos} {e : Expr} {es : List Expr} {ms : List (M PV)} (tk : L2N.Takes X W) (F : FnOk X.prog X.w X.K X.mg X.base (L2N.CX X.prog X.w) k f fd ps (spP X.K cl n g)) (hr : Room k X.A) (hm : X.mg x = some (.ref f)) (hk : PySem.W.keepIn X.K (.ref f) = true)
    (hb : Binds X.K fd ps []) (ha : AM X cl W (e :: es) (mArgs ms)) (hl : ms.length = n := by rfl) (hg : Gl X x := by rfl) (hdb : (x == ("__debug__" : Str)) = false := by decide) (he : starEach (e :: es) X.env = (false, eval e X.env) :: starEach es X.env := by rfl) (hpl : (backTo pos (starEach es X.env)).any (·.1) = false := by rfl) :
    EM X cl W (.Call (.Name x p) (e :: es) [] pos) (mCall g ms) := by
  obtain ⟨t, pa, d⟩ := ha
  refine ⟨_, pe_callS (E := WE W) F hr hg hm hk hb (fun σ => L2N.passAt tk σ) pa hdb he hpl, fun F G H σ S rr Q st hm hp => ?_⟩
  refine d.step' (R2 := RV X.K cl) st hm hp fun y S1 v G1 H1 e1 hm1 s1 st1 rv hp1 => ?_
  exact spP_use st1 rv (by rw [rv.length, mArgs_len e1]; exact hl) hm1 hp1
/-- the object in slot i is handed in to be changed -/
def mIn (i : Nat) (h : PV → Option (PV × RO)) : M PV := fun S => match S[i]? with
  | some (some (.o x)) => match h x with
    | some (x', .ret y) => some (.ok y (S.set i (some (.o x'))))
    | some (x', .exc c fs) => some (.ex c fs (S.set i (some (.o x'))))
    | none => none
  | some (some (.i x)) => match h x with
    | some (x', .ret y) => some (.ok y (S.set i (some (.i x'))))
    | some (x', .exc c fs) => some (.ex c fs (S.set i (some (.i x'))))
    | none => none
  | _ => none
theorem spI_use {F : Fr} {G H : Hp} {σ : L2.St} {S : Sto} {n i : Nat} {f : PV → List PV → Option (PV × RO)} {v0 : V} {vs : List V} {xs : List PV} {Q : VK} {r : Rs PV} (st : StOk X.K cl F G H σ S) (rl : RepL X.K cl G vs xs) (hl : vs.length + 1 = n) (hv : σ[i]? = some (some v0))
    (hm : mIn i (fun x => f x xs) S = some r) (hp : Post X.K cl (RV X.K cl) F W G σ Q r) : spI X.K cl n f (v0 :: vs) H Q (WE W σ) := by
  refine ⟨by rw [List.length_cons]; exact hl, ?_⟩
  unfold mIn at hm
  split at hm
  · rename_i x e
    obtain ⟨a, ea, ga, h0, q⟩ := st.own i x e
    rw [ea] at hv
    cases hv
    simp only [] at hm
    cases ef : f x xs with
    | none => rw [ef] at hm; cases hm
    | some z =>
      obtain ⟨x', ro⟩ := z
      rw [ef] at hm
      refine ⟨a, vs, G, x, x', xs, ro, rfl, st.ex, ga, q, rl, ef, ?_⟩
      cases ro with
      | ret y =>
        cases hm
        exact fun v G' H' g q' r' => hp v G' H' g.g (st.grownO e ea g q') r'
      | exc c fs =>
        cases hm
        exact fun d gs G' H' g q' a b => hp d gs G' H' g.g (st.grownO e ea g q') ⟨a.1, st.free0 a.2, st.rfree a.2⟩ b
  · rename_i x e
    obtain ⟨a, ea, ga, h0, q⟩ := st.inn i x e
    rw [ea] at hv
    cases hv
    simp only [] at hm
    cases ef : f x xs with
    | none => rw [ef] at hm; cases hm
    | some z =>
      obtain ⟨x', ro⟩ := z
      rw [ef] at hm
      refine ⟨a, vs, G, x, x', xs, ro, rfl, st.ex, ga, q, rl, ef, ?_⟩
      cases ro with
      | ret y =>
        cases hm
        exact fun v G' H' g q' r' => hp v G' H' g.g (st.grownII e ea g q') r'
      | exc c fs =>
        cases hm
        exact fun d gs G' H' g q' a b => hp d gs G' H' g.g (st.grownII e ea g q') ⟨a.1, st.free0 a.2, st.rfree a.2⟩ b
  · cases hm
/-- the slot's object is there (own or handed in) -/
def isO (i : Nat) (S : Sto) : Bool := match S[i]? with
  | some (some (.o _)) => true
  | some (some (.i _)) => true
  | _ => false
theorem isO_ref {F : Fr} {G H : Hp} {σ : L2.St} {S : Sto} {i : Nat} (st : StOk X.K cl F G H σ S) (h : isO i S = true) : ∃ v, σ[i]? = some (some v) := by
  unfold isO at h
  split at h
  · rename_i x e
    obtain ⟨a, ea, _⟩ := st.own i x e
    exact ⟨_, ea⟩
  · rename_i x e
    obtain ⟨a, ea, _⟩ := st.inn i x e
    exact ⟨_, ea⟩
  · cases h
def mCallI (i : Nat) (f : PV → List PV → Option (PV × RO)) (ms : List (M PV)) : M PV := fun S => if isO i S then bnd (mArgs ms) (fun xs => mIn i (fun x => f x xs)) S else none
theorem em_callI {x : Str} {k i : Nat} {f : Addr} {fd : FuncData} {ps : List Str} {n : Nat} {g : PV → List PV → Option (PV × RO)} {p : Pos} {e : Expr} {es : List Expr} {ms : List (M PV)} (tk : L2N.Takes X W) (F : FnOk X.prog X.w X.K X.mg X.base (L2N.CX X.prog X.w) k f fd ps (spI X.K cl n g)) (hr : Room k X.A) (hm : X.mg x = some (.ref f)) (hk : PySem.W.keepIn X.K (.ref f) = true)
    (hb : Binds X.K fd ps []) (he0 : PE X e (tVar i)) (ha : AM X cl W es (mArgs ms)) (hl : ms.length + 1 = n := by rfl) (hg : Gl X x := by rfl) (hdb : (x == ("__debug__" : Str)) = false := by decide) (he : starEach (e :: es) X.env = (false, eval e X.env) :: starEach es X.env := by rfl) (hpl : (backTo pos (starEach es X.env)).any (·.1) = false := by rfl) :
    EM X cl W (.Call (.Name x p) (e :: es) [] pos) (mCallI i g ms) := by
  obtain ⟨t, pa, d⟩ := ha
  refine ⟨_, pe_callS (E := WE W) F hr hg hm hk hb (fun σ => L2N.passAt tk σ) (pa_cons he0 pa he) hdb he hpl, fun F G H σ S rr Q st hm hp => ?_⟩
  unfold mCallI at hm
  split at hm <;> try (cases hm; done)
  rename_i ho
  obtain ⟨v0, ev⟩ := isO_ref st ho
  refine ⟨v0, ev, ?_⟩
  refine d.step' (R2 := RV X.K cl) st hm hp fun y S1 v G1 H1 e1 hm1 s1 st1 rv hp1 => ?_
  exact spI_use st1 rv (by rw [rv.length, mArgs_len e1]; exact hl) ev hm1 hp1

/-! ### methods -/
/-- o.m(e, ..), what it may raise told at the slots -/
def tMethS (C : Addr) (m : Str) (sp : Sp) (E : L2.St → XK) (ta : TE) (t : TA) : TE := fun σ H Q => ta σ H fun x H1 => ∃ a dx fs, x = .ref a ∧ H1 a = some (.ins C dx fs) ∧ fs.lookup m = none ∧
  t σ H1 fun vs H2 => sp (x :: vs) H2 Q (E σ)
theorem pe_methS' {k : Nat} {f C : Addr} {fd : FuncData} {ps : List Str} {sp : Sp} {E : L2.St → XK} {CX : CXT} {m : Str} {apos : Pos} {e o : Expr} {es : List Expr} {ta : TE} {t : TA} {pl : Sem Bool} (he : PE X o ta) (c : Cls X.K C) (hm : Meth X.K C m f) (F : FnOk X.prog X.w X.K X.mg X.base CX k f fd ps sp) (hr : Room k X.A) (hb : Binds X.K fd ps []) (hx : ∀ σ, PassesAt CX X σ (E σ)) (ha : PA X (e :: es) t)
    (hst : starEach (e :: es) X.env = (false, eval e X.env) :: starEach es X.env := by rfl) (hpl : (backTo pos (starEach es X.env)).any (·.1) = false := by rfl)
    (ht : eval (.Call (.Attribute o m apos) (e :: es) [] pos) X.env = (do
      let ov ← eval o X.env
      standAt apos.atName
      let (f, first) ← holding [ov] (getMethod ov m pl)
      callWith pos f first (backTo pos (starEach (e :: es) X.env)) (backToKw pos (keywordEach [] X.env))) := by rfl) :
    PE X (.Call (.Attribute o m apos) (e :: es) [] pos) (tMethS C m sp E ta t) := by
  refine ⟨fun pins s σ H Q I h => ?_⟩
  refine PySem.W.methodCall_KW (pl := pl) (thn (he.run pins s σ H _ I h) fun u s1 ⟨x, H1, I1, rx, a, dx, fs, ex, ea, l, q⟩ => ?_) ht
  subst ex
  obtain rfl : u = Value.ref a := rx
  refine getmeth_ok I1 ea c hm l ?_
  refine PySem.W.callWith_K (first := [.ref a]) (h₀ := X.base) I.ok.mod.kin hm.kp (thn (ha.run pos pins s1 σ H1 _ I1 q) fun us s2 ⟨vs, H2, I2, r, q2⟩ => ⟨I2.kIn, ?_⟩) hst hpl
  exact run_fnS (us := .ref a :: us) (vs := .ref a :: vs) F hr hb (hx σ) I2 (.cons rfl r) q2
theorem pe_methS0' {k : Nat} {f C : Addr} {fd : FuncData} {ps : List Str} {sp : Sp} {E : L2.St → XK} {CX : CXT} {m : Str} {apos : Pos} {o : Expr} {ta : TE} {pl : Sem Bool} (he : PE X o ta) (c : Cls X.K C) (hm : Meth X.K C m f) (F : FnOk X.prog X.w X.K X.mg X.base CX k f fd ps sp) (hr : Room k X.A) (hb : Binds X.K fd ps []) (hx : ∀ σ, PassesAt CX X σ (E σ))
    (ht : eval (.Call (.Attribute o m apos) [] [] pos) X.env = (do
      let ov ← eval o X.env
      standAt apos.atName
      let (f, first) ← holding [ov] (getMethod ov m pl)
      callWith pos f first (backTo pos (starEach [] X.env)) (backToKw pos (keywordEach [] X.env))) := by rfl) :
    PE X (.Call (.Attribute o m apos) [] [] pos) (tMethS C m sp E ta tNil) := by
  refine ⟨fun pins s σ H Q I h => ?_⟩
  refine PySem.W.methodCall_KW (pl := pl) (thn (he.run pins s σ H _ I h) fun u s1 ⟨x, H1, I1, rx, a, dx, fs, ex, ea, l, q⟩ => ?_) ht
  subst ex
  obtain rfl : u = Value.ref a := rx
  refine getmeth_ok I1 ea c hm l ?_
  exact PySem.W.callWith_K0 (first := [.ref a]) I1.kIn hm.kp (run_fnS (us := [.ref a]) (vs := [.ref a]) F hr hb (hx σ) I1 (.cons rfl .nil) q)
/-- a method of a plain object -/
def mMeth (c : Nat) (m : Str) (f : List PV → Option RO) (mo : M PV) (ms : List (M PV)) : M PV := bnd mo fun x => match x with
  | .obj d fs => if d = c ∧ fs.lookup m = none then bnd (mArgs ms) fun xs => roM (f (.obj d fs :: xs)) else fun _ => none
  | _ => fun _ => none
theorem does_meth {k : Nat} {c : Nat} {m : Str} {n : Nat} {g : List PV → Option RO} {ta : TE} {t : TA} {mo : M PV} {ms : List (M PV)} (do_ : Does X.K cl W (RV X.K cl) ta mo) (da : Does X.K cl W (RL X.K cl) t (mArgs ms)) (hl : ms.length + 1 = n) :
    Does X.K cl W (RV X.K cl) (tMethS (cl c) m (spP X.K cl n g) (WE W) ta t) (mMeth c m g mo ms) := by
  intro F G H σ S rr Q st hm hp
  refine do_.step (R2 := RV X.K cl) st hm hp fun y S1 v G1 H1 hm1 s1 st1 rv hp1 => ?_
  cases y <;> try (cases hm1; done)
  rename_i d fs
  dsimp only at hm1
  split at hm1 <;> try (cases hm1; done)
  rename_i q
  obtain ⟨q1, q2⟩ := q
  subst q1
  obtain ⟨a, dx, gs, ea, rf⟩ : ∃ a dx gs, v = .ref a ∧ ∃ e : G1 a = some (.ins (cl d) dx gs), RepF X.K cl G1 gs fs := by
    cases rv with
    | obj hs hr => exact ⟨_, _, _, rfl, hs, hr⟩
  subst ea
  obtain ⟨eg, rf⟩ := rf
  refine ⟨a, dx, gs, rfl, st1.ex _ _ eg, rf.lookup_none q2, ?_⟩
  refine da.step' (R2 := RV X.K cl) st1 hm1 hp1 fun ys S2 vs G2 H2 e2 hm2 s2 st2 rvs hp2 => ?_
  exact spP_use st2 (.cons (rv.mono s2) rvs) (by rw [List.length_cons, rvs.length, mArgs_len e2]; exact hl) hm2 hp2
theorem em_meth {k : Nat} {c : Nat} {f : Addr} {fd : FuncData} {ps : List Str} {n : Nat} {g : List PV → Option RO} {m : Str} {apos : Pos} {e o : Expr} {es : List Expr} {mo : M PV} {ms : List (M PV)} {pl : Sem Bool} (tk : L2N.Takes X W) (c' : Cls X.K (cl c)) (hm : Meth X.K (cl c) m f) (F : FnOk X.prog X.w X.K X.mg X.base (L2N.CX X.prog X.w) k f fd ps (spP X.K cl n g)) (hr : Room k X.A) (hb : Binds X.K fd ps [])
    (ho : EM X cl W o mo) (ha : AM X cl W (e :: es) (mArgs ms)) (hl : ms.length + 1 = n := by rfl)
    (hst : starEach (e :: es) X.env = (false, eval e X.env) :: starEach es X.env := by rfl) (hpl : (backTo pos (starEach es X.env)).any (·.1) = false := by rfl)
    (ht : eval (.Call (.Attribute o m apos) (e :: es) [] pos) X.env = (do
      let ov ← eval o X.env
      standAt apos.atName
      let (f, first) ← holding [ov] (getMethod ov m pl)
      callWith pos f first (backTo pos (starEach (e :: es) X.env)) (backToKw pos (keywordEach [] X.env))) := by rfl) :
    EM X cl W (.Call (.Attribute o m apos) (e :: es) [] pos) (mMeth c m g mo ms) := by
  obtain ⟨ta, po, do_⟩ := ho
  obtain ⟨t, pa, da⟩ := ha
  exact ⟨_, pe_methS' (E := WE W) po c' hm F hr hb (fun σ => L2N.passAt tk σ) pa hst hpl ht, does_meth (k := k) do_ da hl⟩
theorem em_meth0 {k : Nat} {c : Nat} {f : Addr} {fd : FuncData} {ps : List Str} {g : List PV → Option RO} {m : Str} {apos : Pos} {o : Expr} {mo : M PV} {pl : Sem Bool} (tk : L2N.Takes X W) (c' : Cls X.K (cl c)) (hm : Meth X.K (cl c) m f) (F : FnOk X.prog X.w X.K X.mg X.base (L2N.CX X.prog X.w) k f fd ps (spP X.K cl 1 g)) (hr : Room k X.A) (hb : Binds X.K fd ps [])
    (ho : EM X cl W o mo)
    (ht : eval (.Call (.Attribute o m apos) [] [] pos) X.env = (do
      let ov ← eval o X.env
      standAt apos.atName
      let (f, first) ← holding [ov] (getMethod ov m pl)
      callWith pos f first (backTo pos (starEach [] X.env)) (backToKw pos (keywordEach [] X.env))) := by rfl) :
    EM X cl W (.Call (.Attribute o m apos) [] [] pos) (mMeth c m g mo []) := by
  obtain ⟨ta, po, do_⟩ := ho
  obtain ⟨t, pa, da⟩ := am_nil (X := X) (cl := cl) (W := W)
  refine ⟨_, pe_methS0' (E := WE W) po c' hm F hr hb (fun σ => L2N.passAt tk σ) ht, ?_⟩
  exact does_meth (k := k) (t := tNil) do_ (fun F G H σ S rr Q st hm hp => by
    cases hm
    exact hp _ _ _ (Same.refl _) st .nil) rfl

/-! ### C(..) -/
def tMakeS (C : Addr) (sp : Sp) (E : L2.St → XK) (t : TA) : TE := fun σ H Q => t σ H fun vs H1 => ∀ x dx, H1 x = none → H1 dx = none → dx ≠ x →
  sp (.ref x :: vs) (upd (upd H1 dx (.own x)) x (.ins C dx [])) (fun v H2 => v = .non ∧ Q (.ref x) H2) (E σ)
theorem run_makeS {k : Nat} {f C : Addr} {fd : FuncData} {ps : List Str} {sp : Sp} {E : L2.St → XK} {CX : CXT} {pins : List (Addr × Obj)} {σ : L2.St} {H : Hp} {s : Shared} {Q : VK} {us : List Value} {vs : List V} (M : Mk X.K C f) (F : FnOk X.prog X.w X.K X.mg X.base CX k f fd ps sp) (hr : Room (k + 1) X.A) (hb : Binds X.K fd ps [])
    (hx : PassesAt CX X σ (E σ)) (I : Inv X pins σ H s) (r : Vals vs us)
    (h : ∀ x dx, H x = none → H dx = none → dx ≠ x → sp (.ref x :: vs) (upd (upd H dx (.own x)) x (.ins C dx [])) (fun v H2 => v = .non ∧ Q (.ref x) H2) (E σ)) :
    wpAny (model X.prog X.w) X.A (call (.ref C) us) (EP X pins σ Q) X.xe s := by
  have hq := h (s.heap.objs.size + 1) s.heap.objs.size (I.hok.fresh (Nat.le_succ _)) (I.hok.fresh (Nat.le_refl _)) (Nat.ne_of_lt (Nat.lt_succ_self _))
  have I2 := Inv.made (C := C) I
  have r2 : Vals (V.ref (s.heap.objs.size + 1) :: vs) (Value.ref (s.heap.objs.size + 1) :: us) := .cons rfl r
  have hl : (Value.ref (s.heap.objs.size + 1) :: us).length = ps.length := by
    have e := r2.length
    rw [F.len _ _ _ _ hq] at e
    exact e.symm
  have hb2 := hb _ (Value.ref (s.heap.objs.size + 1) :: us) I2.kIn (by rw [List.append_nil]; exact hl)
  rw [List.append_nil] at hb2
  refine wpAny_call (make_map (f := f) I.kIn M.makes M.init (beq_iff_eq.mp M.fn) (codeAny_mono (F.run _ X.stack _ _ ⟨Value.ref (s.heap.objs.size + 1) :: us, []⟩ (Value.ref (s.heap.objs.size + 1) :: us) _ _ (E σ) (hr.make C us [])
    (I2.env0.make C us []) hb2 r2 hq) fun r s' hq' => ?_))
  cases r with
  | error e => exact hx pins _ _ e s' I2 hq'
  | ok fl =>
    cases fl with
    | ret u =>
      obtain ⟨v, H', I3, rv, ev, q3⟩ := I2.after hq'
      subst ev
      exact ⟨rv, ⟨V.ref (s.heap.objs.size + 1), H', I3, rfl, q3⟩⟩
    | next => exact False.elim hq'
    | brk => exact False.elim hq'
    | cont => exact False.elim hq'
theorem pe_makeS {x : Str} {k : Nat} {f C : Addr} {fd : FuncData} {ps : List Str} {sp : Sp} {E : L2.St → XK} {CX : CXT} {p : Pos} {e : Expr} {es : List Expr} {t : TA} (M : Mk X.K C f) (F : FnOk X.prog X.w X.K X.mg X.base CX k f fd ps sp) (hr : Room (k + 1) X.A) (hg : Gl X x) (hm : X.mg x = some (.ref C)) (hb : Binds X.K fd ps []) (hx : ∀ σ, PassesAt CX X σ (E σ))
    (ha : PA X (e :: es) t) (hdb : (x == ("__debug__" : Str)) = false := by decide) (he : starEach (e :: es) X.env = (false, eval e X.env) :: starEach es X.env := by rfl) (hpl : (backTo pos (starEach es X.env)).any (·.1) = false := by rfl) :
    PE X (.Call (.Name x p) (e :: es) [] pos) (tMakeS C sp E t) := by
  refine ⟨fun pins s σ H Q I h => ?_⟩
  refine wpAny_Call_Name_kw (ld_glob I hg hm ?_ hdb)
  refine PySem.W.callWith_K (h₀ := X.base) I.ok.mod.kin M.kp (thn (ha.run pos pins s σ H _ I h) fun us s1 ⟨vs, H1, I1, r, q⟩ => ⟨I1.kIn, ?_⟩) he hpl
  exact run_makeS M F hr hb (hx σ) I1 r q
def mkM (h : PV → Option (PV × RO)) (c : Nat) : M PV := fun S => match h (.obj c []) with
  | some (x', .ret .non) => some (.ok x' S)
  | some (_, .exc c' fs) => some (.ex c' fs S)
  | _ => none
def mMake (c : Nat) (f : PV → List PV → Option (PV × RO)) (ms : List (M PV)) : M PV := bnd (mArgs ms) fun xs => mkM (fun x => f x xs) c
theorem grownI_new {a : Addr} {G H G' H' H1 : Hp} (g : GrownI a G H1 G' H') (ha : H a = none) (hs : Same H H1) : Same H H' := fun b o e => g.h b o (fun z => by rw [z, ha] at e; cases e) (hs b o e)
theorem does_make {c n : Nat} {g : PV → List PV → Option (PV × RO)} {t : TA} {ms : List (M PV)} (da : Does X.K cl W (RL X.K cl) t (mArgs ms)) (hl : ms.length + 1 = n) : Does X.K cl W (RV X.K cl) (tMakeS (cl c) (spI X.K cl n g) (WE W) t) (mMake c g ms) := by
  intro F G H σ S rr Q st hm hp
  refine da.step' (R2 := RV X.K cl) st hm hp fun ys S2 vs G2 H2 e2 hm2 s2 st2 rvs hp2 => ?_
  intro x dx hx hdx ne
  refine ⟨by rw [List.length_cons, rvs.length, mArgs_len e2]; exact hl, ?_⟩
  unfold mkM at hm2
  have st3 : StOk X.K cl F G2 (upd (upd H2 dx (.own x)) x (.ins (cl c) dx [])) σ S2 := (st2.allocO hdx).allocO (by rw [upd_ne (Ne.symm ne)]; exact hx)
  have hs : Same H2 (upd (upd H2 dx (.own x)) x (.ins (cl c) dx [])) := (same_new hdx).trans (same_new (by rw [upd_ne (Ne.symm ne)]; exact hx))
  have gx : G2 x = none := st2.free hx
  simp only [] at hm2
  cases ef : g (.obj c []) ys with
  | none => rw [ef] at hm2; cases hm2
  | some z =>
    obtain ⟨x', ro⟩ := z
    rw [ef] at hm2
    refine ⟨x, vs, G2, .obj c [], x', ys, ro, rfl, st3.ex, gx, ⟨dx, [], upd_same, .nil⟩, rvs, ef, ?_⟩
    -- behind the call: all that stood stands
    have gro : ∀ {G' H' : Hp}, GrownI x G2 (upd (upd H2 dx (.own x)) x (.ins (cl c) dx [])) G' H' → Grown G2 H2 G' H' := fun {G' H'} gg => by
      refine ⟨gg.g, gg.gh, grownI_new gg hx hs, fun a o e => ?_⟩
      rcases gg.new a o e with y | y
      · exact .inl y
      · by_cases z1 : a = x
        · rw [z1]; exact .inr hx
        · rw [upd_ne z1] at y
          by_cases z2 : a = dx
          · rw [z2]; exact .inr hdx
          · rw [upd_ne z2] at y
            exact .inr y
    cases ro with
    | ret y =>
      cases y <;> try (cases hm2; done)
      cases hm2
      intro v G' H' gg q' r'
      cases r'
      refine ⟨rfl, ?_⟩
      have gx' : G' x = none := by
        cases z : G' x with
        | none => rfl
        | some u =>
          rcases gg.new x u z with y | y
          · rw [gx] at y; cases y
          · rw [upd_same] at y; cases y
      obtain ⟨o, ho, r⟩ := own_freeze gx' q'
      have gr := gro gg
      have stf := st2.grown (G' := upd G' x o) (H' := H') ⟨gr.g.trans (same_new gx'), fun b u e => by
        by_cases z : b = x
        · subst z; rw [upd_same] at e; rw [← e]; exact ho
        · rw [upd_ne z] at e; exact gr.gh b u e, gr.h, fun b u e => by
        by_cases z : b = x
        · rw [z]; exact .inr hx
        · rw [upd_ne z] at e; exact gr.new b u e⟩
      exact hp2 _ _ _ (gr.g.trans (same_new gx')) stf r
    | exc c' fs =>
      cases hm2
      exact fun d gs G' H' gg q' a b => hp2 d gs G' H' gg.g (st2.grown (gro gg)) ⟨a.1, st2.free0 (hs.free a.2), st2.rfree (hs.free a.2)⟩ b
theorem em_make {x : Str} {k c : Nat} {f : Addr} {fd : FuncData} {ps : List Str} {n : Nat} {g : PV → List PV → Option (PV × RO)} {p : Pos} {e : Expr} {es : List Expr} {ms : List (M PV)} (tk : L2N.Takes X W) (M : Mk X.K (cl c) f) (F : FnOk X.prog X.w X.K X.mg X.base (L2N.CX X.prog X.w) k f fd ps (spI X.K cl n g)) (hr : Room (k + 1) X.A) (hm : X.mg x = some (.ref (cl c)))
    (hb : Binds X.K fd ps []) (ha : AM X cl W (e :: es) (mArgs ms)) (hl : ms.length + 1 = n := by rfl) (hg : Gl X x := by rfl) (hdb : (x == ("__debug__" : Str)) = false := by decide) (he : starEach (e :: es) X.env = (false, eval e X.env) :: starEach es X.env := by rfl) (hpl : (backTo pos (starEach es X.env)).any (·.1) = false := by rfl) :
    EM X cl W (.Call (.Name x p) (e :: es) [] pos) (mMake c g ms) := by
  obtain ⟨t, pa, da⟩ := ha
  exact ⟨_, pe_makeS (E := WE W) M F hr hg hm hb (fun σ => L2N.passAt tk σ) pa hdb he hpl, does_make da hl⟩
end
end Kp
set_option Elab.async false
set_option linter.all false
set_option maxRecDepth 100000
set_option maxHeartbeats 2000000
namespace Kp
open PySem PyProof.Rows L2

/-! ### list comprehensions -/
def wipeS (S : Sto) : List Nat → Sto
  | [] => S
  | v :: vs => (wipeS S vs).set v none
theorem wipeS_length (S : Sto) : ∀ vs : List Nat, (wipeS S vs).length = S.length
  | [] => rfl
  | v :: vs => by unfold wipeS; rw [List.length_set, wipeS_length S vs]
theorem wipeS_out {S : Sto} {i : Nat} : ∀ {vs : List Nat}, i ∉ vs → (wipeS S vs)[i]? = S[i]?
  | [], _ => rfl
  | v :: vs, h => by
    unfold wipeS
    rw [List.getElem?_set_ne (fun z => h (by rw [z]; exact List.mem_cons_self))]
    exact wipeS_out fun z => h (List.mem_cons_of_mem _ z)
theorem wipeS_in {S : Sto} {i : Nat} {y : SV} : ∀ {vs : List Nat}, i ∈ vs → (wipeS S vs)[i]? ≠ some (some y)
  | [], h => by cases h
  | v :: vs, h => by
    unfold wipeS
    intro q
    rcases set_get q with ⟨_, q', _⟩ | ⟨n, q'⟩
    · cases q'
    · rcases List.mem_cons.mp h with z | z
      · exact n z
      · exact wipeS_in z q'
/-- the slots vs of S, the others of S2 -/
def backS (S : Sto) (S2 : Sto) : List Nat → Sto
  | [] => S2
  | v :: vs => (backS S S2 vs).set v (S[v]?.join)
theorem backS_length (S S2 : Sto) : ∀ vs : List Nat, (backS S S2 vs).length = S2.length
  | [] => rfl
  | v :: vs => by unfold backS; rw [List.length_set, backS_length S S2 vs]
theorem backS_out {S S2 : Sto} {i : Nat} : ∀ {vs : List Nat}, i ∉ vs → (backS S S2 vs)[i]? = S2[i]?
  | [], _ => rfl
  | v :: vs, h => by
    unfold backS
    rw [List.getElem?_set_ne (fun z => h (by rw [z]; exact List.mem_cons_self))]
    exact backS_out fun z => h (List.mem_cons_of_mem _ z)
theorem backS_in {S S2 : Sto} {i : Nat} {y : SV} : ∀ {vs : List Nat}, i ∈ vs → (backS S S2 vs)[i]? = some (some y) → S[i]? = some (some y)
  | [], h, _ => by cases h
  | v :: vs, h, q => by
    unfold backS at q
    rcases set_get q with ⟨z, q', _⟩ | ⟨n, q'⟩
    · subst z
      cases e : S[i]? with
      | none => rw [e] at q'; cases q'
      | some w => rw [e] at q'; rw [q']; rfl
    · rcases List.mem_cons.mp h with z | z
      · exact absurd z n
      · exact backS_in z q'
section
variable {K : PySem.W.Frag} {cl : Nat → Addr} {F : Fr} {G G' H H' : Hp} {σ σ2 : L2.St} {S S2 : Sto}
/-- the slots vs are forgotten -/
theorem StOk.wiped {vs : List Nat} (k : StOk K cl F G H σ2 S) (hw : wipe σ2 vs = wipe σ vs) (hio : ∀ i ∈ vs, F.io i = none) : StOk K cl F G H (wipe σ vs) (wipeS S vs) := by
  have out : ∀ {i : Nat} {y : SV}, (wipeS S vs)[i]? = some (some y) → i ∉ vs ∧ S[i]? = some (some y) := fun {i y} q => by
    by_cases z : i ∈ vs
    · exact absurd q (wipeS_in z)
    · exact ⟨z, by rw [← wipeS_out z]; exact q⟩
  have so : ∀ {i : Nat}, i ∉ vs → (L2.wipe σ vs)[i]? = σ2[i]? := fun {i} n => by rw [← hw]; exact wipe_out n
  refine ⟨k.ex, k.ex0, by rw [wipeS_length, ← hw, wipe_length]; exact k.len, fun i x e => ?_, fun i x e => ?_, fun i x e => ?_, fun i j a x y e1 e2 e3 e4 => ?_, fun i a e => ?_, k.ioh, k.iod, k.frame, k.gnew, fun a o e => ?_⟩
  · obtain ⟨n, q⟩ := out e
    rw [so n]
    exact k.val i x q
  · obtain ⟨n, q⟩ := out e
    rw [so n]
    exact k.own i x q
  · obtain ⟨n, q⟩ := out e
    rw [so n]
    exact k.inn i x q
  · obtain ⟨n1, q1⟩ := out e1
    obtain ⟨n2, q2⟩ := out e2
    rw [so n1] at e3
    rw [so n2] at e4
    exact k.dist i j a x y q1 q2 e3 e4
  · obtain ⟨x, hx⟩ := k.io i a e
    have n : i ∉ vs := fun z => by rw [hio i z] at e; cases e
    exact ⟨x, by rw [wipeS_out n]; exact hx⟩
  · obtain ⟨r1, r2, r3, r4⟩ := k.rsv a o e
    refine ⟨r1, r2, r3, fun i x q z => ?_⟩
    obtain ⟨n, q'⟩ := out q
    rw [so n] at z
    exact r4 i x q' z
/-- .. and come back -/
theorem StOk.back {vs : List Nat} {G1 H1 : Hp} (k1 : StOk K cl F G1 H1 σ S) (hs : Same G1 G) (k : StOk K cl F G H (wipe σ vs) S2) (hp : ∀ i ∈ vs, ∀ y, S[i]? = some (some y) → ∃ x, y = .p x) (hio : ∀ i ∈ vs, F.io i = none) : StOk K cl F G H σ (backS S S2 vs) := by
  have so : ∀ {i : Nat}, i ∉ vs → (L2.wipe σ vs)[i]? = σ[i]? := fun {i} n => wipe_out n
  have own : ∀ {i : Nat} {x : PV}, (backS S S2 vs)[i]? = some (some (.o x)) → i ∉ vs ∧ S2[i]? = some (some (.o x)) := fun {i x} e => by
    by_cases z : i ∈ vs
    · obtain ⟨w, hw⟩ := hp i z _ (backS_in z e)
      cases hw
    · exact ⟨z, by rw [← backS_out z]; exact e⟩
  refine ⟨k.ex, k.ex0, by rw [backS_length, ← k.len, wipe_length], fun i x e => ?_, fun i x e => ?_, fun i x e => ?_, fun i j a x y e1 e2 e3 e4 => ?_, fun i a e => ?_, k.ioh, k.iod, k.frame, k.gnew, fun a o e => ?_⟩
  · by_cases z : i ∈ vs
    · obtain ⟨v, ev, rv⟩ := k1.val i x (backS_in z e)
      exact ⟨v, ev, rv.mono hs⟩
    · rw [backS_out z] at e
      rw [← so z]
      exact k.val i x e
  · obtain ⟨n, q⟩ := own e
    rw [← so n]
    exact k.own i x q
  · by_cases z : i ∈ vs
    · obtain ⟨w, hw⟩ := hp i z _ (backS_in z e)
      cases hw
    · rw [backS_out z] at e
      rw [← so z]
      exact k.inn i x e
  · obtain ⟨n1, q1⟩ := own e1
    obtain ⟨n2, q2⟩ := own e2
    rw [← so n1] at e3
    rw [← so n2] at e4
    exact k.dist i j a x y q1 q2 e3 e4
  · obtain ⟨x, hx⟩ := k.io i a e
    have n : i ∉ vs := fun z => by rw [hio i z] at e; cases e
    exact ⟨x, by rw [backS_out n]; exact hx⟩
  · obtain ⟨r1, r2, r3, r4⟩ := k.rsv a o e
    refine ⟨r1, r2, r3, fun i x q z => ?_⟩
    obtain ⟨n, q'⟩ := own q
    rw [← so n] at z
    exact r4 i x q' z
end
/-- the turns: what is made of the items -/
def lcGo (vs : List Nat) (g : PV → Sto → Option Sto) (mt : M Bool) (me : M PV) : List PV → Sto → Option (List PV × Sto)
  | [], S => some ([], S)
  | y :: ys, S => match g y S with
    | none => none
    | some S1 => match mt S1 with
      | some (.ok true S2) => match me S2 with
        | some (.ok z S3) => match lcGo vs g mt me ys (wipeS S3 vs) with
          | some (zs, S4) => some (z :: zs, S4)
          | none => none
        | _ => none
      | some (.ok false S2) => lcGo vs g mt me ys (wipeS S2 vs)
      | _ => none
def plainAt (S : Sto) (vs : List Nat) : Bool := vs.all fun i => match S[i]? with
  | some (some (.o _)) => false
  | some (some (.i _)) => false
  | none => false
  | _ => true
def mLc (vs : List Nat) (mi : M (List PV)) (g : PV → Sto → Option Sto) (mt : M Bool) (me : M PV) : M PV := fun S => match mi S with
  | some (.ok ys S1) => if ys.length ≤ sizeLine ∧ plainAt S1 vs = true then match lcGo vs g mt me ys (wipeS S1 vs) with
      | some (zs, S2) => some (.ok (.lst zs) (backS S1 S2 vs))
      | none => none
    else none
  | _ => none
def mYes : M Bool := ret true
theorem lcGo_len {vs : List Nat} {g : PV → Sto → Option Sto} {mt : M Bool} {me : M PV} : ∀ {ys : List PV} {S S' : Sto} {zs : List PV}, lcGo vs g mt me ys S = some (zs, S') → zs.length ≤ ys.length
  | [], S, S', zs, h => by
    unfold lcGo at h
    cases h
    exact Nat.le_refl _
  | y :: ys, S, S', zs, h => by
    unfold lcGo at h
    split at h
    · cases h
    · split at h
      · split at h
        · split at h
          · rename_i e
            cases h
            have := lcGo_len e
            simp only [List.length_cons]
            omega
          · cases h
        · cases h
      · have := lcGo_len h
        simp only [List.length_cons]
        omega
      · cases h
section
variable {X : Cx} {cl : Nat → Addr} {W : WX} {pos : Pos}
/-- a test of a comprehension -/
def TsM (X : Cx) (cl : Nat → Addr) (W : WX) (ifs : List Expr) (m : M Bool) : Prop := ∃ t, PTs X ifs t ∧ Does X.K cl W RB t m
theorem ts_nil : TsM X cl W [] mYes := ⟨_, pts_nil, fun F G H σ S rr Q st hm hp => by
  cases hm
  exact hp _ _ _ (Same.refl _) st rfl⟩
theorem ts_one {c : Expr} {m : M Bool} (h : TM X cl W c m) : TsM X cl W [c] m := by
  obtain ⟨t, p, d⟩ := h
  exact ⟨_, pts_one p, d⟩
abbrev W0 : WX := fun _ _ _ _ => False
/-- the targets take their items into the slots vs alone -/
def gIn (vs : List Nat) (t : TG) : Prop := ∀ (v : V) (σ : L2.St) (H : Hp) (Q Q' : L2.St → Hp → Prop), t v (wipe σ vs) H Q → (∀ σ' H', wipe σ' vs = wipe σ vs → Q σ' H' → Q' σ' H') → t v (wipe σ vs) H Q'
theorem does_lc {vs : List Nat} {wi : TI} {tg : TG} {tt : TT} {te : TE} {mi : M (List PV)} {g : PV → Sto → Option Sto} {mt : M Bool} {me : M PV} (hi : DoesI X.K cl W wi mi) (hg : DoesG X.K cl tg g) (hgi : gIn vs tg)
    (ht : Does X.K cl W0 RB tt mt) (he : Does X.K cl W0 (RV X.K cl) te me) : Does X.K cl W (RV X.K cl) (tLc wi tg tt te vs) (mLc vs mi g mt me) := by
  intro F G H σ S r Q st hm hp
  unfold mLc at hm
  split at hm <;> try (cases hm; done)
  rename_i ys S1 e1
  split at hm <;> try (cases hm; done)
  rename_i c
  obtain ⟨hlen, hpl⟩ := c
  split at hm <;> try (cases hm; done)
  rename_i zs S2 eg
  cases hm
  refine hi F G H σ S ys S1 _ st e1 fun J G1 H1 s1 st1 hw => ?_
  intro D hD
  have plain : ∀ i ∈ vs, ∀ y, S1[i]? = some (some y) → ∃ x, y = .p x := fun i hi y e => by
    have := List.all_eq_true.mp hpl i hi
    rw [e] at this
    cases y with
    | p x => exact ⟨x, rfl⟩
    | o x => cases this
    | i x => cases this
  have hio : ∀ i ∈ vs, F.io i = none := fun i hi => by
    cases q : F.io i with
    | none => rfl
    | some a =>
      obtain ⟨x, hx⟩ := st1.io i a q
      have := List.all_eq_true.mp hpl i hi
      rw [hx] at this
      cases this
  have fr := st1.rfree hD
  have stw := st1.wiped (σ := σ) (vs := vs) rfl hio
  have hfresh : ∀ (i : Nat) (x : PV), (wipeS S1 vs)[i]? = some (some (.o x)) → (wipe σ vs)[i]? ≠ some (some (V.ref D)) := fun i x e z => by
    obtain ⟨a, ea, _, _, q⟩ := stw.own i x e
    rw [z] at ea
    cases ea
    obtain ⟨o, ho⟩ := q.there
    rw [hD] at ho
    cases ho
  have st2 := stw.rsvNew (o := .lst []) hD hfresh
  -- the turns
  refine ⟨fun i n H' => n + i = ys.length ∧ ∃ (G' : Hp) (S' : Sto) (acc : List V) (done rest : List PV), Same G1 G' ∧ acc.length ≤ i ∧ StOk X.K cl { F with R := fun b => if b = D then some (.lst acc) else F.R b } G' H' (wipe σ vs) S' ∧ RepL X.K cl G' acc done ∧
    done ++ rest = zs ∧ lcGo vs g mt me (ys.drop i) S' = some (rest, S2), ⟨ys.length, Nat.add_zero _, G1, _, [], [], zs, Same.refl _, Nat.zero_le _, st2, .nil, rfl, eg⟩, ?_⟩
  rintro i n H' ⟨hn, G', S', acc, dn, rest, s', hacc, st', rl, hz, hl⟩
  obtain ⟨hgo, hstop⟩ := hw i G' H' s' st'.ex
  cases e : ys[i]? with
  | none =>
    have hle : ys.length ≤ i := List.getElem?_eq_none_iff.mp e
    refine .inl ⟨hstop hle, ?_⟩
    rw [List.drop_eq_nil_of_le hle] at hl
    unfold lcGo at hl
    cases hl
    rw [List.append_nil] at hz
    subst hz
    obtain ⟨st3, gD⟩ := st'.rsvEnd fr
    have hzl : acc.length ≤ sizeLine := by
      rw [rl.length]
      exact Nat.le_trans (lcGo_len eg) hlen
    have sg : Same G' (upd G' D (.lst acc)) := same_new gD
    exact hp _ _ _ (s1.trans (s'.trans sg)) (StOk.back st1 (s'.trans sg) st3 plain hio) (.lst upd_same hzl (rl.mono sg))
  | some y =>
    obtain ⟨hlt, _⟩ := List.getElem?_eq_some_iff.mp e
    have hd : ys.drop i = y :: ys.drop (i + 1) := by
      rw [List.drop_eq_getElem_cons hlt]
      have : ys[i] = y := by
        have := List.getElem?_eq_getElem hlt
        rw [e] at this
        exact (Option.some.inj this).symm
      rw [this]
    rw [hd] at hl
    unfold lcGo at hl
    obtain ⟨go, hy⟩ := hgo y e
    refine .inr ⟨go, fun H3 => (n - 1) + (i + 1) = ys.length ∧ ∃ (G' : Hp) (S' : Sto) (acc : List V) (done rest : List PV), Same G1 G' ∧ acc.length ≤ i + 1 ∧ StOk X.K cl { F with R := fun b => if b = D then some (.lst acc) else F.R b } G' H3 (wipe σ vs) S' ∧ RepL X.K cl G' acc done ∧
      done ++ rest = zs ∧ lcGo vs g mt me (ys.drop (i + 1)) S' = some (rest, S2), fun H3 q => ⟨n - 1, by omega, q⟩, fun x H3 hx => ?_⟩
    obtain ⟨G3, s3, st3, r3⟩ := st'.res1 (hy x H3 hx)
    cases eg1 : g y S' with
    | none => rw [eg1] at hl; cases hl
    | some Sg =>
      rw [eg1] at hl
      refine hgi x σ H3 (fun σ' H' => H' = H3 ∧ StOk X.K cl { F with R := fun b => if b = D then some (.lst acc) else F.R b } G3 H3 σ' Sg) _ (hg _ G3 H3 _ S' Sg x y _ st3 r3 eg1 fun σ4 st4 => ⟨rfl, st4⟩) fun σ4 H4 hwσ q4 => ⟨hwσ, ?_⟩
      obtain ⟨rfl, st4⟩ := q4
      simp only [] at hl
      cases et : mt Sg with
      | none => rw [et] at hl; cases hl
      | some rt =>
        rw [et] at hl
        cases rt with
        | ex c fs S5 => cases hl
        | ok b S5 =>
          refine ht _ G3 _ σ4 Sg _ _ st4 et ?_
          intro b' G5 H5 s5 st5 hb
          cases hb
          cases b with
          | false =>
            simp only [] at hl
            rw [if_neg Bool.false_ne_true]
            exact ⟨by omega, G5, _, acc, dn, rest, (s'.trans s3).trans s5, Nat.le_succ_of_le hacc, st5.wiped hwσ hio, (rl.mono s3).mono s5, hz, hl⟩
          | true =>
            simp only [] at hl
            rw [if_pos rfl]
            cases ee : me S5 with
            | none => rw [ee] at hl; cases hl
            | some re =>
              rw [ee] at hl
              cases re with
              | ex c fs S6 => cases hl
              | ok z S6 =>
                simp only [] at hl
                cases eg6 : lcGo vs g mt me (ys.drop (i + 1)) (wipeS S6 vs) with
                | none => rw [eg6] at hl; cases hl
                | some q6 =>
                  obtain ⟨zs6, S7⟩ := q6
                  rw [eg6] at hl
                  cases hl
                  refine he _ G5 H5 σ4 S5 _ _ st5 ee ?_
                  intro w G6 H6 s6 st6 rw'
                  have hH := (st6.rsv D (.lst acc) (if_pos rfl)).1
                  refine ⟨acc, hH, by omega, by omega, G6, _, acc ++ [w], dn ++ [z], zs6, ((s'.trans s3).trans s5).trans s6, by rw [List.length_append, List.length_singleton]; omega,
                    StOk.rsvSet (st6.wiped hwσ hio), (((rl.mono s3).mono s5).mono s6).append (.one rw'), by rw [List.append_assoc]; exact hz, eg6⟩
theorem em_lc {elt tg iter : Expr} {ifs : List Expr} {scope : Scope} {own : List (Str × Nat)} {mi : M (List PV)} {g : PV → Sto → Option Sto} {t : TG} {mt : M Bool} {me : M PV} (hc : X.calm = true) (hN : X.N.Nodup) (hi : IM X cl W tg iter mi) (ok : BlkOk X.N X.env.scope scope own)
    (hg : ∀ (s : Shared) (H : Hp) (C : Addr) (cl' : List (Str × Addr)) (fp : List Addr), PG (X.blk s H scope (compEnvC scope cl' C X.env) fp) tg t) (hgd : DoesG X.K cl t g)
    (hgi : gIn (own.map (·.2)) t)
    (ht : ∃ tt, (∀ (s : Shared) (H : Hp) (C : Addr) (cl' : List (Str × Addr)) (fp : List Addr), PTs (X.blk s H scope (compEnvC scope cl' C X.env) fp) ifs tt) ∧ Does X.K cl W0 RB tt mt)
    (he : ∃ te, (∀ (s : Shared) (H : Hp) (C : Addr) (cl' : List (Str × Addr)) (fp : List Addr), PE (X.blk s H scope (compEnvC scope cl' C X.env) fp) elt te) ∧ Does X.K cl W0 (RV X.K cl) te me)
    (hs : ∀ x, foldedSetIterable iter X.env x = pure x := by intro _; rfl) :
    EM X cl W (.ListComp elt [⟨tg, iter, ifs, 0⟩] scope pos) (mLc (own.map (·.2)) mi g mt me) := by
  obtain ⟨wi, pi, di⟩ := hi
  obtain ⟨tt, pt, dt⟩ := ht
  obtain ⟨te, pe, de⟩ := he
  exact ⟨_, pe_lc hc hN pi ok hg pt pe hs, does_lc di hgd hgi dt de⟩
end
end Kp
set_option Elab.async false
set_option linter.all false
set_option maxRecDepth 100000
set_option maxHeartbeats 2000000
namespace Kp
open PySem PyProof.Rows L2

/-! ### targets -/
section
variable {K : PySem.W.Frag} {cl : Nat → Addr}
theorem does_gN {i : Nat} : DoesG K cl (gName i) (gN i) := fun F G H σ S S' v y Q st r h k => by
  unfold gN at h
  split at h
  · rename_i u S2 e
    cases h
    exact k _ (put_ok st e r)
  · cases h
def gTs : List (PV → Sto → Option Sto) → List PV → Sto → Option Sto
  | [], [], S => some S
  | g :: gs, y :: ys, S => match g y S with
    | some S' => gTs gs ys S'
    | none => none
  | _, _, _ => none
def gT (gs : List (PV → Sto → Option Sto)) : PV → Sto → Option Sto := fun y S => match y with
  | .tup xs => gTs gs xs S
  | _ => none
theorem gTs_len : ∀ {gs : List (PV → Sto → Option Sto)} {ys : List PV} {S S' : Sto}, gTs gs ys S = some S' → ys.length = gs.length
  | [], [], _, _, _ => rfl
  | [], _ :: _, _, _, h => by cases h
  | _ :: _, [], _, _, h => by cases h
  | g :: gs, y :: ys, S, S', h => by
    unfold gTs at h
    split at h
    · rw [List.length_cons, List.length_cons, gTs_len h]
    · cases h
def DoesGs (K : PySem.W.Frag) (cl : Nat → Addr) (t : TGs) (g : List PV → Sto → Option Sto) : Prop :=
  ∀ (F : Fr) (G H : Hp) (σ : L2.St) (S S' : Sto) (vs : List V) (ys : List PV) (Q : L2.St → Hp → Prop), StOk K cl F G H σ S → RepL K cl G vs ys → g ys S = some S' →
    (∀ σ', StOk K cl F G H σ' S' → Q σ' H) → t vs σ H Q
theorem does_gNil : DoesGs K cl gNil (gTs []) := fun F G H σ S S' vs ys Q st r h k => by
  cases ys with
  | nil =>
    cases r
    cases h
    exact ⟨rfl, k σ st⟩
  | cons y ys => cases h
theorem does_gCons {t : TG} {u : TGs} {g : PV → Sto → Option Sto} {gs : List (PV → Sto → Option Sto)} (h1 : DoesG K cl t g) (h2 : DoesGs K cl u (gTs gs)) : DoesGs K cl (gCons t u) (gTs (g :: gs)) := fun F G H σ S S' vs ys Q st r h k => by
  cases ys with
  | nil => cases h
  | cons y ys =>
    cases r with
    | cons rv rvs =>
      unfold gTs at h
      split at h
      · rename_i S1 e
        exact ⟨_, _, rfl, h1 F G H σ S S1 _ y _ st rv e fun σ' st' => h2 F G H σ' S1 S' _ ys Q st' rvs h k⟩
      · cases h
theorem does_gT {n : Nat} {u : TGs} {gs : List (PV → Sto → Option Sto)} (h2 : DoesGs K cl u (gTs gs)) (hn : gs.length = n) : DoesG K cl (gTup K n u) (gT gs) := fun F G H σ S S' v y Q st r h k => by
  cases y <;> try (cases h; done)
  cases r with
  | tup hs hz hr => exact ⟨_, _, rfl, sqt_mono st.ex hs, by rw [hr.length, gTs_len h]; exact hn, h2 F G H σ S S' _ _ Q st hr h k⟩
/-- the target takes the slots vs alone -/
def gInA (vs : List Nat) (t : TG) : Prop := ∀ (v : V) (σ : L2.St) (H : Hp) (Q Q' : L2.St → Hp → Prop), t v σ H Q → (∀ σ' H', wipe σ' vs = wipe σ vs → Q σ' H' → Q' σ' H') → t v σ H Q'
def gInAs (vs : List Nat) (t : TGs) : Prop := ∀ (v : List V) (σ : L2.St) (H : Hp) (Q Q' : L2.St → Hp → Prop), t v σ H Q → (∀ σ' H', wipe σ' vs = wipe σ vs → Q σ' H' → Q' σ' H') → t v σ H Q'
theorem wipe_get (σ : L2.St) (vs : List Nat) (j : Nat) : (wipe σ vs)[j]? = if j ∈ vs then (if j < σ.length then some none else none) else σ[j]? := by
  by_cases h : j ∈ vs
  · rw [if_pos h]
    by_cases lt : j < σ.length
    · rw [if_pos lt]
      cases e : (wipe σ vs)[j]? with
      | none =>
        have := List.getElem?_eq_none_iff.mp e
        rw [wipe_length] at this
        omega
      | some w =>
        cases w with
        | none => rfl
        | some x => exact absurd h (wipe_some e).2
    · rw [if_neg lt]
      exact List.getElem?_eq_none (by rw [wipe_length]; omega)
  · rw [if_neg h]
    exact wipe_out h
theorem wipe_ext {σ σ' : L2.St} {vs : List Nat} (hl : σ.length = σ'.length) (h : ∀ j, j ∉ vs → σ[j]? = σ'[j]?) : wipe σ vs = wipe σ' vs := by
  apply List.ext_getElem?
  intro j
  rw [wipe_get, wipe_get, hl]
  by_cases q : j ∈ vs
  · rw [if_pos q, if_pos q]
  · rw [if_neg q, if_neg q]
    exact h j q
theorem gin_N {vs : List Nat} {i : Nat} (h : i ∈ vs) : gInA vs (gName i) := fun v σ H Q Q' q k => by
  refine k _ _ (wipe_ext (by rw [List.length_set]) fun j hj => ?_) q
  rw [List.getElem?_set_ne (fun z => hj (by rw [← z]; exact h))]
theorem gin_Nil {vs : List Nat} : gInAs vs gNil := fun v σ H Q Q' q k => ⟨q.1, k _ _ rfl q.2⟩
theorem gin_Cons {vs : List Nat} {t : TG} {u : TGs} (h1 : gInA vs t) (h2 : gInAs vs u) : gInAs vs (gCons t u) := fun v σ H Q Q' q k => by
  obtain ⟨x, r, e, q⟩ := q
  exact ⟨x, r, e, h1 x σ H _ _ q fun σ1 H1 w q1 => h2 r σ1 H1 _ _ q1 fun σ2 H2 w2 q2 => k σ2 H2 (w2.trans w) q2⟩
theorem gin_T {vs : List Nat} {n : Nat} {u : TGs} (h : gInAs vs u) : gInA vs (gTup K n u) := fun v σ H Q Q' q k => by
  obtain ⟨a, xs, e, hs, hl, q⟩ := q
  exact ⟨a, xs, e, hs, hl, h xs σ H _ _ q k⟩
theorem gin_of {vs : List Nat} {t : TG} (h : gInA vs t) : gIn vs t := fun v σ H Q Q' q k => by
  refine h v _ H _ _ q fun σ' H' w q' => k σ' H' (w.trans ?_) q'
  exact wipe_ext (wipe_length _ _) fun j hj => wipe_out hj
end

section
variable {X : Cx} {cl : Nat → Addr} {W : WX} {pos : Pos}
theorem gm_of {tg : Expr} {t : TG} {g : PV → Sto → Option Sto} (h : PG X tg t) (d : DoesG X.K cl t g) : GM X cl tg g := ⟨t, h, d⟩
/-- a, b = e -/
def mAsg (m : M PV) (g : PV → Sto → Option Sto) : M Fl := bnd m fun x => fun S => match g x S with
  | some S' => some (.ok .nx S')
  | none => none
theorem sm_asg {tg e : Expr} {m : M PV} {g : PV → Sto → Option Sto} (h : EM X cl W e m) (hg : GM X cl tg g) (hs : swapsWithSole [tg] e pos.line X.env = pure false := by rfl) (hw : swappedStores [tg] e X.env = pure none := by rfl)
    (h1 : (assignEach [tg] X.env).map (·.2) = [assign tg X.env] := by rfl) : SM X cl W (.Assign [tg] e pos) (mAsg m g) := by
  obtain ⟨t, p, d⟩ := h
  obtain ⟨u, q, dg⟩ := hg
  refine ⟨_, ps_asg p q hs hw h1, fun F G H σ S r D st hm hp => ?_⟩
  refine d.stepS st hm hp fun y S1 v G1 H1 hm1 s1 st1 rv hp1 => ?_
  split at hm1
  · rename_i S2 e
    cases hm1
    exact dg F G1 H1 σ S1 S2 v y _ st1 rv e fun σ' st' => hp1 σ' G1 H1 (Same.refl _) st'
  · cases hm1

/-! ### peeks: an own object is looked at, not handed on -/
def pk (i : Nat) (S : Sto) : Option PV := match S[i]? with
  | some (some (.p x)) => some x
  | some (some (.o x)) => some x
  | some (some (.i x)) => some x
  | _ => none
def PV.atom : PV → Bool
  | .non => true
  | .bl _ => true
  | .int _ => true
  | .str _ => true
  | _ => false
theorem Rep.atom {K : PySem.W.Frag} {H H' : Hp} {v : V} {x : PV} (r : Rep K cl H v x) (h : x.atom = true) : Rep K cl H' v x := by
  cases r <;> first | exact .non | exact .bl _ | exact .int _ | exact .str _ ‹_› | cases h
/-- the slot's value, plain over a heap that knows the own object, too -/
theorem pk_view {K : PySem.W.Frag} {F : Fr} {G H : Hp} {σ : L2.St} {S : Sto} {i : Nat} {x : PV} (st : StOk K cl F G H σ S) (h : pk i S = some x) :
    ∃ (v : V) (G' : Hp), σ[i]? = some (some v) ∧ Same G G' ∧ Same G' H ∧ Rep K cl G' v x := by
  have fz : ∀ {a : Addr}, G a = none → OwnAt K cl G H a x → ∃ (G' : Hp), Same G G' ∧ Same G' H ∧ Rep K cl G' (.ref a) x := fun {a} ga q => by
    obtain ⟨o, ho, r⟩ := own_freeze ga q
    refine ⟨_, same_new ga, fun b u e => ?_, r⟩
    by_cases z : b = a
    · subst z
      rw [upd_same] at e
      rw [← e]; exact ho
    · rw [upd_ne z] at e
      exact st.ex b u e
  unfold pk at h
  split at h
  · rename_i y e
    cases h
    obtain ⟨v, ev, rv⟩ := st.val i _ e
    exact ⟨v, G, ev, Same.refl _, st.ex, rv⟩
  · rename_i y e
    cases h
    obtain ⟨a, ea, ga, h0, q⟩ := st.own i _ e
    obtain ⟨G', s1, s2, r⟩ := fz ga q
    exact ⟨_, G', ea, s1, s2, r⟩
  · rename_i y e
    cases h
    obtain ⟨a, ea, ga, hio, q⟩ := st.inn i _ e
    obtain ⟨G', s1, s2, r⟩ := fz ga q
    exact ⟨_, G', ea, s1, s2, r⟩
  · cases h
/-- an operation's end with an atom -/
theorem post_atom {F : Fr} {G G' H H' : Hp} {σ : L2.St} {S : Sto} {Q : VK} {z : PV} {w : V} (h : Post X.K cl (RV X.K cl) F W G σ Q (.ok z S)) (st : StOk X.K cl F G H σ S) (hz : z.atom = true) (q : Res1 X.K cl G' H z w H') : Q w H' := by
  rcases q with ⟨rfl, r⟩ | ⟨p, o, hp, rfl, r⟩
  · exact h w G _ (Same.refl _) st (r.atom hz)
  · exact h w _ _ (same_new (st.free hp)) (st.alloc hp) (r.atom hz)
def opk (i : Nat) (f : PV → Option PV) : M PV := fun S => match pk i S with
  | some x => match f x with
    | some z => if z.atom then some (.ok z S) else none
    | none => none
  | none => none
theorem opk_some {i : Nat} {f : PV → Option PV} {S : Sto} {r : Rs PV} (h : opk i f S = some r) : ∃ x z, pk i S = some x ∧ f x = some z ∧ z.atom = true ∧ r = .ok z S := by
  unfold opk at h
  split at h
  · rename_i x e
    split at h
    · rename_i z ez
      split at h
      · rename_i hz
        cases h
        exact ⟨x, z, e, ez, hz, rfl⟩
      · cases h
    · cases h
  · cases h
def guardPk {α : Type} (i : Nat) (m : M α) : M α := fun S => match pk i S with
  | some _ => m S
  | none => none
theorem guardPk_some {α : Type} {i : Nat} {m : M α} {S : Sto} {r : Rs α} (h : guardPk i m S = some r) : (∃ x, pk i S = some x) ∧ m S = some r := by
  unfold guardPk at h
  split at h
  · rename_i x e
    exact ⟨⟨x, e⟩, h⟩
  · cases h
/-- a op e, a a name -/
def mBinL (g : PV → PV → Option PV) (i : Nat) (mb : M PV) : M PV := guardPk i (bnd mb fun y => opk i fun x => g x y)
def mBinR (g : PV → PV → Option PV) (ma : M PV) (i : Nat) : M PV := bnd ma fun x => opk i fun y => g x y
theorem does_binL {i : Nat} {g : PV → PV → Option PV} {r : R2} {tb : TE} {mb : M PV} (hr : BinS X.K cl r g) (h2 : Does X.K cl W (RV X.K cl) tb mb) : Does X.K cl W (RV X.K cl) (tOp r (tVar i) tb) (mBinL g i mb) := by
  intro F G H σ S rr Q st hm hp
  obtain ⟨⟨x0, e0⟩, hm⟩ := guardPk_some hm
  obtain ⟨v, G0, ev, _⟩ := pk_view st e0
  refine ⟨v, ev, ?_⟩
  refine h2.step st hm hp fun y S2 u G2 H2 hm2 s2 st2 ru hp2 => ?_
  obtain ⟨x, z, e1, ez, hz, rfl⟩ := opk_some hm2
  obtain ⟨v', G3, ev', s3, s3', rv⟩ := pk_view st2 e1
  rw [ev] at ev'
  cases ev'
  exact hr G3 H2 v u x y z Q s3' rv (ru.mono s3) ez fun w H' q => post_atom hp2 st2 hz q
theorem does_binR {i : Nat} {g : PV → PV → Option PV} {r : R2} {ta : TE} {ma : M PV} (hr : BinS X.K cl r g) (h1 : Does X.K cl W (RV X.K cl) ta ma) : Does X.K cl W (RV X.K cl) (tOp r ta (tVar i)) (mBinR g ma i) := by
  intro F G H σ S rr Q st hm hp
  refine h1.step st hm hp fun x S2 u G2 H2 hm2 s2 st2 ru hp2 => ?_
  obtain ⟨y, z, e1, ez, hz, rfl⟩ := opk_some hm2
  obtain ⟨v', G3, ev', s3, s3', rv⟩ := pk_view st2 e1
  exact ⟨v', ev', hr G3 H2 u v' x y z Q s3' (ru.mono s3) rv ez fun w H' q => post_atom hp2 st2 hz q⟩
theorem em_cmpL {op : CmpOp} {a b : Expr} {i : Nat} {g : PV → PV → Option PV} {mb : M PV} (hb : BinR X cl (compareOp op) g) (ha : PE X a (tVar i)) (hb' : EM X cl W b mb) (hm : behindInMarks op b = false) : EM X cl W (.Compare a [op] [b] pos) (mBinL g i mb) := by
  obtain ⟨tb, pb, db⟩ := hb'
  obtain ⟨r, ho, hs⟩ := hb
  exact ⟨_, pe_cmpR ho ha pb hm, does_binL hs db⟩
theorem em_cmpRt {op : CmpOp} {a b : Expr} {i : Nat} {g : PV → PV → Option PV} {ma : M PV} (hb : BinR X cl (compareOp op) g) (ha : EM X cl W a ma) (hb' : PE X b (tVar i)) (hm : behindInMarks op b = false) : EM X cl W (.Compare a [op] [b] pos) (mBinR g ma i) := by
  obtain ⟨ta, pa, da⟩ := ha
  obtain ⟨r, ho, hs⟩ := hb
  exact ⟨_, pe_cmpR ho pa hb' hm, does_binR hs da⟩
theorem tm_cmpL {op : CmpOp} {a b : Expr} {i : Nat} {g : PV → PV → Option PV} {mb : M PV} (hb : BinR X cl (compareOp op) g) (ha : PE X a (tVar i)) (hb' : EM X cl W b mb) (hm : behindInMarks op b = false) : TM X cl W (.Compare a [op] [b] pos) (mTest (mBinL g i mb)) := by
  obtain ⟨tb, pb, db⟩ := hb'
  obtain ⟨r, ho, hs⟩ := hb
  exact ⟨_, pt_cmpR ho ha pb hm, does_test (does_binL hs db)⟩
theorem tm_cmpRt {op : CmpOp} {a b : Expr} {i : Nat} {g : PV → PV → Option PV} {ma : M PV} (hb : BinR X cl (compareOp op) g) (ha : EM X cl W a ma) (hb' : PE X b (tVar i)) (hm : behindInMarks op b = false) : TM X cl W (.Compare a [op] [b] pos) (mTest (mBinR g ma i)) := by
  obtain ⟨ta, pa, da⟩ := ha
  obtain ⟨r, ho, hs⟩ := hb
  exact ⟨_, pt_cmpR ho pa hb' hm, does_test (does_binR hs da)⟩
end
end Kp
set_option Elab.async false
set_option linter.all false
set_option maxRecDepth 100000
set_option maxHeartbeats 2000000
namespace Kp
open PySem PyProof.Rows L2

/-! ### dicts: keys ints and texts -/
def keyEq : PV → PV → Bool
  | .int i, .int j => decide (i = j)
  | .str a, .str b => decide (a = b)
  | _, _ => false
def isKey : PV → Option Key
  | .int i => some (.inl i)
  | .str s => some (.inr s)
  | _ => none
def dGet (kvs : List (PV × PV)) (y : PV) : Option PV := (kvs.find? fun kv => keyEq kv.1 y).map (·.2)
def dPut (kvs : List (PV × PV)) (y z : PV) : List (PV × PV) := if (kvs.any fun kv => keyEq kv.1 y) = true then kvs.map (fun kv => if keyEq kv.1 y = true then (kv.1, z) else kv) else kvs ++ [(y, z)]
theorem isKey_some {y : PV} {k : Key} (h : isKey y = some k) : y = keyPV k := by
  cases y <;> first | (cases h; rfl) | cases h
theorem keyEq_key (j k : Key) : keyEq (keyPV j) (keyPV k) = decide (j = k) := by
  rcases j with i | a <;> rcases k with i' | b
  · show decide (i = i') = decide (Sum.inl i = (Sum.inl i' : Key))
    congr 1
    exact propext ⟨fun e => by rw [e], fun e => by cases e; rfl⟩
  · rfl
  · rfl
  · show decide (a = b) = decide (Sum.inr a = (Sum.inr b : Key))
    congr 1
    exact propext ⟨fun e => by rw [e], fun e => by cases e; rfl⟩
theorem rep_key {K : PySem.W.Frag} {cl : Nat → Addr} {H : Hp} {v : V} {k : Key} (r : Rep K cl H v (keyPV k)) : v = kV k := by
  cases k with
  | inl i => cases r; rfl
  | inr s => cases r; rfl
section
variable {K : PySem.W.Frag} {cl : Nat → Addr} {H : Hp}
theorem RepK.get : ∀ {gs : List (Key × V)} {kvs : List (PV × PV)} {k : Key}, RepK K cl H gs kvs → (∀ x, dGet kvs (keyPV k) = some x → ∃ v, valV gs k = some v ∧ Rep K cl H v x) ∧ (dGet kvs (keyPV k) = none → valV gs k = none)
  | _, _, _, .nil => ⟨(fun x h => by cases h), (fun _ => rfl)⟩
  | _, _, k, .cons (k := j) (v := v) (vs := vs) (x := x) (xs := xs) h hs => by
    have ih := RepK.get (k := k) hs
    by_cases e : j = k
    · subst e
      have e1 : dGet ((keyPV j, x) :: xs) (keyPV j) = some x := by
        unfold dGet
        rw [List.find?_cons, keyEq_key]
        simp
      rw [e1, valV_pos rfl]
      exact ⟨fun y q => by cases q; exact ⟨_, rfl, h⟩, fun q => by cases q⟩
    · have e1 : dGet ((keyPV j, x) :: xs) (keyPV k) = dGet xs (keyPV k) := by
        unfold dGet
        rw [List.find?_cons, keyEq_key]
        simp [e]
      rw [e1, valV_neg e]
      exact ih
theorem RepK.any : ∀ {gs : List (Key × V)} {kvs : List (PV × PV)} {k : Key}, RepK K cl H gs kvs → (kvs.any fun kv => keyEq kv.1 (keyPV k)) = gs.any fun kv => decide (kv.1 = k)
  | _, _, _, .nil => rfl
  | _, _, k, .cons (k := j) h hs => by
    simp only [List.any_cons]
    rw [RepK.any hs, keyEq_key]
theorem RepK.repl : ∀ {gs : List (Key × V)} {kvs : List (PV × PV)} {k : Key} {v : V} {z : PV}, RepK K cl H gs kvs → Rep K cl H v z → RepK K cl H (gs.map fun kv => if kv.1 = k then (kv.1, v) else kv) (kvs.map fun kv => if keyEq kv.1 (keyPV k) = true then (kv.1, z) else kv)
  | _, _, _, _, _, .nil, _ => .nil
  | _, _, k, _, _, .cons (k := j) h hs, r => by
    simp only [List.map_cons]
    rw [keyEq_key]
    by_cases e : j = k
    · subst e
      simp only [decide_true, if_true]
      exact .cons r (RepK.repl hs r)
    · rw [if_neg e, if_neg (by simp [e])]
      exact .cons h (RepK.repl hs r)
theorem RepK.append : ∀ {gs gs' : List (Key × V)} {kvs kvs' : List (PV × PV)}, RepK K cl H gs kvs → RepK K cl H gs' kvs' → RepK K cl H (gs ++ gs') (kvs ++ kvs')
  | _, _, _, _, .nil, h => h
  | _, _, _, _, .cons h hs, k => .cons h (RepK.append hs k)
theorem RepK.put {gs : List (Key × V)} {kvs : List (PV × PV)} {k : Key} {v : V} {z : PV} (h : RepK K cl H gs kvs) (r : Rep K cl H v z) : RepK K cl H (putK gs k v) (dPut kvs (keyPV k) z) := by
  unfold putK dPut
  rw [h.any]
  split
  · exact h.repl r
  · exact h.append (.cons r .nil)
theorem RepK.length : ∀ {gs : List (Key × V)} {kvs : List (PV × PV)}, RepK K cl H gs kvs → gs.length = kvs.length
  | _, _, .nil => rfl
  | _, _, .cons _ hs => by rw [List.length_cons, List.length_cons, RepK.length hs]
end

section
variable {X : Cx} {cl : Nat → Addr} {W : WX} {pos : Pos}
/-! ### x[k] -/
def rIxD : R2 := fun x y H Q => ∃ a v, x = .ref a ∧ DGet H a y (some v) ∧ Q v H
theorem ix_dct (hu : X.A.units + 1 < cLine) : IxR X rIxD := by
  intro value slice pins s σ H x y v u Q I rx ry h hs
  obtain ⟨a, w, rfl, g, q⟩ := h
  obtain rfl : v = Value.ref a := rx
  have hT := dict_typeIs I g
  unfold subscriptTail
  refine wpAny_bind ?_
  rw [getitemInPython_of_ne hT.not_modules]
  refine wpAny_bind (wpAny_specialOf hT PySem.F.slot_dict_getitem.lookup ?_)
  have fin : wpAny (model X.prog X.w) X.A (subscripted slice false (.ref a) u) (fun r s₃ => wpAny (model X.prog X.w) X.A (letTemporaryGo value (.ref a) r >>= fun _ => pure r) (EP X pins σ Q) X.xe s₃) X.xe s := by
    rw [hs]
    exact wpAny_operating (d_getItem hu I g ry fun w' s3 I3 rw' => wpAny_bind (wpAny_letTemporaryGo (wpAny_pure ⟨w, H, I3, rw', q⟩)))
  first
    | exact wpAny_pure (wpAny_bind fin)
    | exact wpAny_bind (wpAny_pure (wpAny_bind fin))
    | exact wpAny_bind fin
def rIxA (K : PySem.W.Frag) : R2 := fun x y H Q => rIx K x y H Q ∨ rIxD x y H Q
theorem ix_any (hu : X.A.units + 64 < cLine) : IxR X (rIxA X.K) := ix_seq.or (ix_dct (by omega))
def pIx (x i : PV) : Option PV := match x with
  | .dct kvs => if (isKey i).isSome then dGet kvs i else none
  | _ => pIdx x i
theorem bs_ix : BinS X.K cl (rIxA X.K) pIx := by
  intro G H v u x y z Q e rv ru hz k
  unfold pIx at hz
  cases x <;> try exact .inl (bs_idx G H v u _ y z Q e rv ru hz k)
  dsimp only at hz
  split at hz <;> try (cases hz; done)
  rename_i kvs hk
  obtain ⟨kk, ek⟩ := Option.isSome_iff_exists.mp hk
  obtain rfl := isKey_some ek
  obtain rfl := rep_key ru
  cases rv with
  | dct hs hr =>
    obtain ⟨w, ew, rw'⟩ := hr.get.1 _ hz
    refine .inr ⟨_, w, rfl, ?_, k _ _ (.inl ⟨rfl, rw'⟩)⟩
    rw [← ew]
    exact DGet.k (e _ _ hs)
theorem em_ix {a b : Expr} {ma mb : M PV} (hu : X.A.units + 64 < cLine) (ha : EM X cl W a ma) (hb : EM X cl W b mb) (hs : PlainIx b := by exact fun _ _ => rfl) : EM X cl W (.Subscript a b pos) (mBin pIx ma mb) := by
  obtain ⟨ta, pa, da⟩ := ha
  obtain ⟨tb, pb, db⟩ := hb
  exact ⟨_, pe_ix (ix_any hu) pa pb hs, does_bin bs_ix da db⟩
/-- x[k], x a name -/
def mIxV (i : Nat) (mk : M PV) : M PV := guardPk i (bnd mk fun y => fun S => match pk i S with
  | some x => match pIx x y with
    | some z => some (.ok z S)
    | none => none
  | none => none)
theorem em_ixV {a b : Expr} {i : Nat} {mb : M PV} (hu : X.A.units + 64 < cLine) (ha : PE X a (tVar i)) (hb : EM X cl W b mb) (hs : PlainIx b := by exact fun _ _ => rfl) : EM X cl W (.Subscript a b pos) (mIxV i mb) := by
  obtain ⟨tb, pb, db⟩ := hb
  refine ⟨_, pe_ix (ix_any hu) ha pb hs, fun F G H σ S rr Q st hm hp => ?_⟩
  obtain ⟨⟨x0, e0⟩, hm⟩ := guardPk_some hm
  obtain ⟨v, G0, ev, _⟩ := pk_view st e0
  refine ⟨v, ev, ?_⟩
  refine db.step st hm hp fun y S2 u G2 H2 hm2 s2 st2 ru hp2 => ?_
  split at hm2 <;> try (cases hm2; done)
  rename_i x e1
  split at hm2 <;> try (cases hm2; done)
  rename_i z ez
  cases hm2
  have own : ∀ {a : Addr}, v = .ref a → OwnAt X.K cl G2 H2 a x → rIxA X.K v u H2 Q := fun {a} ea q => by
    subst ea
    unfold pIx at ez
    cases x <;> try exact q.elim
    · obtain ⟨vs, e2, hz, r⟩ := q
      unfold pIdx at ez
      cases y <;> try (cases ez; done)
      cases ru
      obtain ⟨w, ew, rw'⟩ := atI_rep r ez
      exact .inl (.inl ⟨_, _, _, w, rfl, rfl, SqL.of e2, ew, hp2 w G2 H2 (Same.refl _) st2 rw'⟩)
    · obtain ⟨gs, e2, r⟩ := q
      dsimp only at ez
      split at ez <;> try (cases ez; done)
      rename_i kvs hk
      obtain ⟨kk, ek⟩ := Option.isSome_iff_exists.mp hk
      obtain rfl := isKey_some ek
      obtain rfl := rep_key ru
      obtain ⟨w, ew, rw'⟩ := r.get.1 _ ez
      refine .inr ⟨_, w, rfl, ?_, hp2 w G2 H2 (Same.refl _) st2 rw'⟩
      rw [← ew]
      exact DGet.k e2
    · cases ez
  unfold pk at e1
  split at e1
  · rename_i y' e
    cases e1
    obtain ⟨v', ev', rv⟩ := st2.val i _ e
    rw [ev] at ev'
    cases ev'
    exact bs_ix G2 H2 v u x y z Q st2.ex rv ru ez fun w H' q => hp2.res1 st2 q
  · rename_i y' e
    cases e1
    obtain ⟨a, ea, ga, h0, q⟩ := st2.own i _ e
    rw [ev] at ea
    cases ea
    exact own rfl q
  · rename_i y' e
    cases e1
    obtain ⟨a, ea, ga, h0, q⟩ := st2.inn i _ e
    rw [ev] at ea
    cases ea
    exact own rfl q
  · cases e1

/-! ### y in d -/
def rInD (n : Bool) : R2 := fun y x H Q => ∃ a o, x = .ref a ∧ DGet H a y o ∧ Q (.bl (if n then !o.isSome else o.isSome)) H
theorem op_inD (hu : X.A.units + 1 < cLine) : OpR X (compareOp .In) (rInD false) := by
  intro pins s σ H y x u v Q I ry rx h
  obtain ⟨a, o, rfl, g, q⟩ := h
  obtain rfl : v = Value.ref a := rx
  exact d_in hu I g ry fun s3 I3 => ⟨.bl o.isSome, H, I3, rfl, q⟩
theorem op_notInD (hu : X.A.units + 1 < cLine) : OpR X (compareOp .NotIn) (rInD true) := by
  intro pins s σ H y x u v Q I ry rx h
  obtain ⟨a, o, rfl, g, q⟩ := h
  obtain rfl : v = Value.ref a := rx
  exact d_notIn hu I g ry fun s3 I3 => ⟨.bl (!o.isSome), H, I3, rfl, q⟩
def pHasB (x c : PV) : Option Bool := match c with
  | .dct kvs => if (isKey x).isSome then some (dGet kvs x).isSome else none
  | _ => pInB x c
def pHas (x c : PV) : Option PV := (pHasB x c).map PV.bl
def pHasNot (x c : PV) : Option PV := (pHasB x c).map fun b => .bl (!b)
theorem dget_rep {G H : Hp} {u v : V} {x : PV} {kvs : List (PV × PV)} (e : Same G H) (hk : (isKey x).isSome = true) (rx : Rep X.K cl G v x) (r : Rep X.K cl G u (.dct kvs)) : ∃ a o, u = .ref a ∧ DGet H a v o ∧ o.isSome = (dGet kvs x).isSome := by
  obtain ⟨kk, ek⟩ := Option.isSome_iff_exists.mp hk
  obtain rfl := isKey_some ek
  obtain rfl := rep_key rx
  cases r with
  | dct hs hr =>
    refine ⟨_, _, rfl, DGet.k (e _ _ hs), ?_⟩
    cases q : dGet kvs (keyPV kk) with
    | none => rw [hr.get.2 q]; rfl
    | some z =>
      obtain ⟨w, ew, _⟩ := hr.get.1 _ q
      rw [ew]
      rfl
theorem br_has (hu : X.A.units + 64 < cLine) : BinR X cl (compareOp .In) pHas := by
  obtain ⟨r, hr, hs⟩ := br_in (X := X) (cl := cl) hu
  refine ⟨_, hr.or (op_inD (by omega)), ?_⟩
  intro G H v u x y z Q e rv ru hz k
  unfold pHas pHasB at hz
  cases y <;> try exact .inl (hs G H v u x _ z Q e rv ru hz k)
  dsimp only at hz
  split at hz <;> try (cases hz; done)
  rename_i kvs hk
  cases hz
  obtain ⟨a, o, e1, g, e2⟩ := dget_rep e hk rv ru
  refine .inr ⟨a, o, e1, g, ?_⟩
  rw [if_neg Bool.false_ne_true, e2]
  exact k _ _ (.inl ⟨rfl, .bl _⟩)
theorem br_hasNot (hu : X.A.units + 64 < cLine) : BinR X cl (compareOp .NotIn) pHasNot := by
  obtain ⟨r, hr, hs⟩ := br_notIn (X := X) (cl := cl) hu
  refine ⟨_, hr.or (op_notInD (by omega)), ?_⟩
  intro G H v u x y z Q e rv ru hz k
  unfold pHasNot pHasB at hz
  cases y <;> try exact .inl (hs G H v u x _ z Q e rv ru hz k)
  dsimp only at hz
  split at hz <;> try (cases hz; done)
  rename_i kvs hk
  cases hz
  obtain ⟨a, o, e1, g, e2⟩ := dget_rep e hk rv ru
  refine .inr ⟨a, o, e1, g, ?_⟩
  rw [if_pos rfl, e2]
  exact k _ _ (.inl ⟨rfl, .bl _⟩)

/-! ### x[k] = e -/
def pPut (x k v : PV) : Option PV := match x with
  | .lst xs => match k with
    | .int j => match ixN xs.length j with
      | some n => some (.lst (xs.set n v))
      | none => none
    | _ => none
  | .dct kvs => if (isKey k).isSome && decide (kvs.length < sizeLine) then some (.dct (dPut kvs k v)) else none
  | _ => none
def rSetA : TSet := fun o i v H Q => rSetL o i v H Q ∨ ∃ a H', o = .ref a ∧ DPut H a i v H' ∧ Q H'
theorem pset_any (hu : X.A.units + 64 < cLine) : PSet X rSetA := by
  intro pins s σ H o i v ov iv u Q I ro ri rv h
  rcases h with h | ⟨a, H', e, g, q⟩
  · exact set_list pins s σ H o i v ov iv u Q I ro ri rv h
  · subst e
    obtain rfl : ov = Value.ref a := ro
    exact d_setItem (by omega) I g ri rv fun s4 I4 => ⟨H', I4, q⟩
def updO (i : Nat) (f : PV → Option PV) : M Unit := fun S => match S[i]? with
  | some (some (.o x)) => match f x with
    | some x' => some (.ok () (S.set i (some (.o x'))))
    | none => none
  | some (some (.i x)) => match f x with
    | some x' => some (.ok () (S.set i (some (.i x'))))
    | none => none
  | _ => none
theorem updO_use {K : PySem.W.Frag} {F : Fr} {G H : Hp} {σ : L2.St} {S : Sto} {i : Nat} {f : PV → Option PV} {r : Rs Unit} (st : StOk K cl F G H σ S) (h : updO i f S = some r) : ∃ (a : Addr) (x x' : PV) (S' : Sto), r = .ok () S' ∧ σ[i]? = some (some (.ref a)) ∧ G a = none ∧ OwnAt K cl G H a x ∧ f x = some x' ∧
    ∀ o, OwnAt K cl G (upd H a o) a x' → StOk K cl F G (upd H a o) σ S' := by
  unfold updO at h
  split at h
  · rename_i x e
    split at h <;> try (cases h; done)
    rename_i x' ex
    cases h
    obtain ⟨a, ea, ga, h0, q⟩ := st.own i x e
    exact ⟨a, x, x', _, rfl, ea, ga, q, ex, fun o w => st.chg e ea w⟩
  · rename_i x e
    split at h <;> try (cases h; done)
    rename_i x' ex
    cases h
    obtain ⟨a, ea, ga, h0, q⟩ := st.inn i x e
    exact ⟨a, x, x', _, rfl, ea, ga, q, ex, fun o w => st.chgi e ea w⟩
  · cases h
def mPut (i : Nat) (mk me : M PV) : M Fl := bnd me fun v => guardPk i (bnd mk fun k => bnd (updO i fun x => pPut x k v) fun _ => ret .nx)
theorem set_any {K : PySem.W.Frag} {G H : Hp} {a : Addr} {x k v x' : PV} {wk wv : V} {Q : Hp → Prop} (q : OwnAt K cl G H a x) (rk : Rep K cl G wk k) (rv : Rep K cl G wv v) (h : pPut x k v = some x') (hq : ∀ o, OwnAt K cl G (upd H a o) a x' → Q (upd H a o)) : rSetA (.ref a) wk wv H Q := by
  unfold pPut at h
  cases x <;> try exact q.elim
  · obtain ⟨vs, e, hz, r⟩ := q
    dsimp only at h
    cases k <;> try (cases h; done)
    dsimp only at h
    split at h <;> try (cases h; done)
    rename_i en
    cases h
    cases rk
    exact .inl ⟨a, vs, _, _, rfl, rfl, e, by rw [r.length]; exact en, hq _ ⟨_, upd_same, by rw [List.length_set]; exact hz, r.set _ rv⟩⟩
  · obtain ⟨gs, e, r⟩ := q
    dsimp only at h
    split at h <;> try (cases h; done)
    rename_i kvs c
    simp only [Bool.and_eq_true, decide_eq_true_eq] at c
    cases h
    obtain ⟨kk, ek⟩ := Option.isSome_iff_exists.mp c.1
    obtain rfl := isKey_some ek
    obtain rfl := rep_key rk
    exact .inr ⟨a, _, rfl, DPut.k e (by rw [r.length]; exact c.2), hq _ ⟨_, upd_same, r.put rv⟩⟩
  · cases h
theorem sm_put {o k e : Expr} {i : Nat} {mk me : M PV} {pos' : Pos} (hu : X.A.units + 64 < cLine) (ho : PE X o (tVar i)) (hk : EM X cl W k mk) (he : EM X cl W e me)
    (ha : ∀ v, assign (.Subscript o k pos') X.env v = (do
      let ov ← holding [v] (eval o X.env)
      let iv ← holding [v, ov] (eval k X.env)
      standAt pos'
      holding [v, ov, iv] (setItem ov iv v)
      release [v, ov, iv] []) := by intro _; rfl)
    (hs : swapsWithSole [.Subscript o k pos'] e pos.line X.env = pure false := by rfl) (hw : swappedStores [.Subscript o k pos'] e X.env = pure none := by rfl)
    (h1 : (assignEach [.Subscript o k pos'] X.env).map (·.2) = [assign (.Subscript o k pos') X.env] := by rfl) : SM X cl W (.Assign [.Subscript o k pos'] e pos) (mPut i mk me) := by
  obtain ⟨te, pe, de⟩ := he
  obtain ⟨tk, pk', dk⟩ := hk
  refine ⟨_, ps_asg pe (pg_sub ho pk' (pset_any hu) ha) hs hw h1, fun F G H σ S r D st hm hp => ?_⟩
  refine de.stepS st hm hp fun v S1 wv G1 H1 hm1 s1 st1 rv hp1 => ?_
  obtain ⟨⟨x0, e0⟩, hm1⟩ := guardPk_some hm1
  obtain ⟨w0, G0, ev, _⟩ := pk_view st1 e0
  refine ⟨w0, ev, ?_⟩
  refine dk.stepS st1 hm1 hp1 fun kk S2 wk G2 H2 hm2 s2 st2 rk hp2 => ?_
  rcases bnd_some hm2 with ⟨u, S3, e3, e4⟩ | ⟨c, fs, S3, e3, _⟩
  · cases e4
    obtain ⟨a, x, x', S', e5, ea, ga, q, ef, fin⟩ := updO_use st2 e3
    cases e5
    rw [ev] at ea
    cases ea
    exact set_any q rk (rv.mono s2) ef fun o w => hp2 _ _ _ (Same.refl _) (fin o w)
  · obtain ⟨a, x, x', S', e5, _⟩ := updO_use st2 e3
    cases e5

/-! ### methods of own objects -/
def isOT (T : String) (i : Nat) (S : Sto) : Bool := match S[i]? with
  | some (some (.o (.lst _))) => T == "list"
  | some (some (.i (.lst _))) => T == "list"
  | some (some (.o (.dct _))) => T == "dict"
  | some (some (.i (.dct _))) => T == "dict"
  | _ => false
theorem isOT_ty {F : Fr} {G H : Hp} {σ : L2.St} {S : Sto} {T : String} {i : Nat} (st : StOk X.K cl F G H σ S) (h : isOT T i S = true) : ∃ a, σ[i]? = some (some (V.ref a)) ∧ tyV X.K T (.ref a) H := by
  unfold isOT at h
  split at h
  · rename_i xs e
    obtain ⟨a, ea, _, _, vs, eh, _⟩ := st.own i _ e
    exact ⟨a, ea, .inl ⟨beq_iff_eq.mp h, vs, SqL.of eh⟩⟩
  · rename_i xs e
    obtain ⟨a, ea, _, _, vs, eh, _⟩ := st.inn i _ e
    exact ⟨a, ea, .inl ⟨beq_iff_eq.mp h, vs, SqL.of eh⟩⟩
  · rename_i xs e
    obtain ⟨a, ea, _, _, vs, eh, _⟩ := st.own i _ e
    exact ⟨a, ea, .inr (.inr (.inl ⟨beq_iff_eq.mp h, .inl ⟨vs, eh⟩⟩))⟩
  · rename_i xs e
    obtain ⟨a, ea, _, _, vs, eh, _⟩ := st.inn i _ e
    exact ⟨a, ea, .inr (.inr (.inl ⟨beq_iff_eq.mp h, .inl ⟨vs, eh⟩⟩))⟩
  · cases h
def MtO (K : PySem.W.Frag) (cl : Nat → Addr) (r : V → List V → Hp → VK → Prop) (f : PV → List PV → Option (PV × PV)) : Prop :=
  ∀ (G H : Hp) (a : Addr) (x : PV) (vs : List V) (xs : List PV) (x' z : PV) (Q : VK), Same G H → G a = none → OwnAt K cl G H a x → RepL K cl G vs xs → f x xs = some (x', z) →
    (∀ w o, OwnAt K cl G (upd H a o) a x' → Rep K cl G w z → Q w (upd H a o)) → r (.ref a) vs H Q
def updR (i : Nat) (f : PV → Option (PV × PV)) : M PV := fun S => match S[i]? with
  | some (some (.o x)) => match f x with
    | some (x', z) => some (.ok z (S.set i (some (.o x'))))
    | none => none
  | some (some (.i x)) => match f x with
    | some (x', z) => some (.ok z (S.set i (some (.i x'))))
    | none => none
  | _ => none
theorem updR_use {K : PySem.W.Frag} {F : Fr} {G H : Hp} {σ : L2.St} {S : Sto} {i : Nat} {f : PV → Option (PV × PV)} {r : Rs PV} (st : StOk K cl F G H σ S) (h : updR i f S = some r) : ∃ (a : Addr) (x x' z : PV) (S' : Sto), r = .ok z S' ∧ σ[i]? = some (some (.ref a)) ∧ G a = none ∧ OwnAt K cl G H a x ∧ f x = some (x', z) ∧
    ∀ o, OwnAt K cl G (upd H a o) a x' → StOk K cl F G (upd H a o) σ S' := by
  unfold updR at h
  split at h
  · rename_i x e
    split at h <;> try (cases h; done)
    rename_i x' z ex
    cases h
    obtain ⟨a, ea, ga, h0, q⟩ := st.own i x e
    exact ⟨a, x, x', z, _, rfl, ea, ga, q, ex, fun o w => st.chg e ea w⟩
  · rename_i x e
    split at h <;> try (cases h; done)
    rename_i x' z ex
    cases h
    obtain ⟨a, ea, ga, h0, q⟩ := st.inn i x e
    exact ⟨a, x, x', z, _, rfl, ea, ga, q, ex, fun o w => st.chgi e ea w⟩
  · cases h
def mMt (T : String) (i : Nat) (f : PV → List PV → Option (PV × PV)) (ms : List (M PV)) : M PV := fun S => if isOT T i S = true then bnd (mArgs ms) (fun xs => updR i fun x => f x xs) S else none
theorem does_mt {T : String} {i : Nat} {r : V → List V → Hp → VK → Prop} {f : PV → List PV → Option (PV × PV)} {t : TA} {ms : List (M PV)} (hr : MtO X.K cl r f) (da : Does X.K cl W (RL X.K cl) t (mArgs ms)) : Does X.K cl W (RV X.K cl) (tBM X.K T r (tVar i) t) (mMt T i f ms) := by
  intro F G H σ S rr Q st hm hp
  unfold mMt at hm
  split at hm <;> try (cases hm; done)
  rename_i hT
  obtain ⟨a, ea, ty⟩ := isOT_ty st hT
  refine ⟨_, ea, ty, ?_⟩
  refine da.step (R2 := RV X.K cl) st hm hp fun xs S2 vs G2 H2 hm2 s2 st2 rv hp2 => ?_
  obtain ⟨a', x, x', z, S', e5, ea', ga, q, ef, fin⟩ := updR_use st2 hm2
  subst e5
  rw [ea] at ea'
  cases ea'
  exact hr G2 H2 a x vs xs x' z Q st2.ex ga q rv ef fun w o q' r' => hp2 w G2 _ (Same.refl _) (fin o q') r'
theorem em_mt {o e : Expr} {es : List Expr} {name : Str} {apos : Pos} {T id : String} {r : V → List V → Hp → VK → Prop} {f : PV → List PV → Option (PV × PV)} {i : Nat} {ms : List (M PV)} (pa : PlainAttrs T) (slot : Slot T name id) (hty : typeOf (.builtin id) = pure (.type "method_descriptor")) (hm : MtR X id r) (hr : MtO X.K cl r f) (ho : PE X o (tVar i)) (ha : AM X cl W (e :: es) (mArgs ms))
    (hbase : attributeBase o name X.env (eval o X.env) = eval o X.env := by rfl)
    (hfew : ((backTo pos (starEach (e :: es) X.env)).all (fun x => !x.1) && (backToKw pos (keywordEach [] X.env)).all (fun x => x.1.isSome)
      && decide ((e :: es).length + ([] : List Keyword).length + (if ([] : List Keyword).isEmpty then 0 else 1) < 30)) = true := by rfl)
    (hline : (apos.endLine == pos.line) = true := by rfl) (hs : starEach (e :: es) X.env = (false, eval e X.env) :: starEach es X.env := by rfl) (hplain : (backTo pos (starEach es X.env)).any (·.1) = false := by rfl) :
    EM X cl W (.Call (.Attribute o name apos) (e :: es) [] pos) (mMt T i f ms) := by
  obtain ⟨t, pa', da⟩ := ha
  exact ⟨_, pe_bm pa slot hty hm ho pa' hbase hfew hline hs hplain, does_mt hr da⟩
/-- append -/
def fApp (x : PV) (xs : List PV) : Option (PV × PV) := match x, xs with
  | .lst ys, [y] => if ys.length < sizeLine then some (.lst (ys ++ [y]), .non) else none
  | _, _ => none
theorem mto_app : MtO X.K cl rAppend fApp := by
  intro G H a x vs xs x' z Q e ga q rl h k
  unfold fApp at h
  split at h <;> try (cases h; done)
  split at h <;> try (cases h; done)
  rename_i ys y hl
  cases h
  obtain ⟨ws, eh, hz, r⟩ := q
  cases rl with
  | cons ry rn =>
    cases rn
    have hw : ws.length < sizeLine := by rw [r.length]; exact hl
    exact ⟨a, ws, _, rfl, rfl, eh, hw, k _ _ ⟨_, upd_same, by rw [List.length_append, List.length_singleton]; omega, r.append (.one ry)⟩ .non⟩
def mApp (i : Nat) (m : M PV) : M Fl := mDrop (mMt "list" i fApp [m])
theorem sm_app {o e : Expr} {apos p : Pos} {i : Nat} {m : M PV} (ho : PE X o (tVar i)) (he : EM X cl W e m)
    (hbase : attributeBase o "append" X.env (eval o X.env) = eval o X.env := by rfl)
    (hfew : ((backTo p (starEach [e] X.env)).all (fun x => !x.1) && (backToKw p (keywordEach [] X.env)).all (fun x => x.1.isSome)
      && decide ([e].length + ([] : List Keyword).length + (if ([] : List Keyword).isEmpty then 0 else 1) < 30)) = true := by rfl)
    (hline : (apos.endLine == p.line) = true := by rfl) (hs : starEach [e] X.env = (false, eval e X.env) :: starEach [] X.env := by rfl) (hplain : (backTo p (starEach [] X.env)).any (·.1) = false := by rfl)
    (hsw : swapsWith (.Call (.Attribute o "append" apos) [e] [] p) none pos.line X.env = pure false := by rfl) :
    SM X cl W (.Expr (.Call (.Attribute o "append" apos) [e] [] p) pos) (mApp i m) :=
  sm_expr (em_mt PySem.F.plainAttrs_list PySem.F.slot_list_append PySem.F.type_list_append mt_append mto_app ho (am_cons he am_nil hs) hbase hfew hline hs hplain) hsw
end
end Kp
set_option Elab.async false
set_option linter.all false
set_option maxRecDepth 100000
set_option maxHeartbeats 2000000
namespace Kp
open PySem PyProof.Rows L2

/-! ### fresh objects, to be changed -/
def PostF (K : PySem.W.Frag) (cl : Nat → Addr) (F : Fr) (W : WX) (G : Hp) (σ : L2.St) (Q : V → Hp → Prop) : Rs PV → Prop
  | .ok x S' => ∀ (a : Addr) (G' H' : Hp), Same G G' → StOk K cl F G' H' σ S' → G' a = none → F.H0 a = none → F.R a = none → (∀ (i : Nat) (y : PV), S'[i]? = some (some (.o y)) → σ[i]? ≠ some (some (V.ref a))) → OwnAt K cl G' H' a x → Q (.ref a) H'
  | .ex c fs S' => ExP K cl F W G σ c fs S'
def DoesF (K : PySem.W.Frag) (cl : Nat → Addr) (W : WX) (t : TE) (m : M PV) : Prop :=
  ∀ (F : Fr) (G H : Hp) (σ : L2.St) (S : Sto) (r : Rs PV) (Q : VK), StOk K cl F G H σ S → m S = some r → PostF K cl F W G σ Q r → t σ H Q
def FM (X : Cx) (cl : Nat → Addr) (W : WX) (e : Expr) (m : M PV) : Prop := ∃ t, PE X e t ∧ DoesF X.K cl W t m
section
variable {K : PySem.W.Frag} {cl : Nat → Addr} {F : Fr} {G H : Hp} {σ : L2.St} {S : Sto} {a : Addr}
/-- a fresh object is plain from now on -/
theorem StOk.freezeNew (k : StOk K cl F G H σ S) (hg : G a = none) (h0 : F.H0 a = none) (hR : F.R a = none) (hn : ∀ (i : Nat) (y : PV), S[i]? = some (some (.o y)) → σ[i]? ≠ some (some (V.ref a))) {x : PV} (q : OwnAt K cl G H a x) :
    ∃ G', Same G G' ∧ StOk K cl F G' H σ S ∧ Rep K cl G' (.ref a) x := by
  obtain ⟨o, ho, r⟩ := own_freeze hg q
  have k1 : StOk K cl { F with R := fun b => if b = a then some o else F.R b } G H σ S := by
    refine ⟨k.ex, k.ex0, k.len, k.val, k.own, k.inn, k.dist, k.io, k.ioh, k.iod, k.frame, k.gnew, fun b u e => ?_⟩
    dsimp only at e
    split at e
    · rename_i z
      cases e
      rw [z]
      exact ⟨ho, hg, h0, hn⟩
    · exact k.rsv b u e
  exact ⟨_, same_new hg, (k1.rsvEnd hR).1, r⟩
theorem StOk.newSlot (k : StOk K cl F G H σ S) (h : H a = none) : ∀ (i : Nat) (y : PV), S[i]? = some (some (.o y)) → σ[i]? ≠ some (some (V.ref a)) := fun i y e z => by
  obtain ⟨b, eb, _, _, q⟩ := k.own i y e
  rw [z] at eb
  cases eb
  obtain ⟨o, ho⟩ := q.there
  rw [h] at ho
  cases ho
end
section
variable {X : Cx} {cl : Nat → Addr} {W : WX} {pos : Pos}
theorem em_fm {e : Expr} {m : M PV} (h : FM X cl W e m) : EM X cl W e m := by
  obtain ⟨t, p, d⟩ := h
  refine ⟨t, p, fun F G H σ S r Q st hm hp => d F G H σ S r Q st hm ?_⟩
  cases r with
  | ok x S' =>
    intro a G' H' s k hg h0 hR hn q
    obtain ⟨G2, s2, k2, r2⟩ := k.freezeNew hg h0 hR hn q
    exact hp _ G2 H' (s.trans s2) k2 r2
  | ex c fs S' => exact hp
/-- behind an allocation -/
theorem postF_new {F : Fr} {G H : Hp} {σ : L2.St} {S : Sto} {Q : VK} {x : PV} {p : Addr} {o : HO} (h : PostF X.K cl F W G σ Q (.ok x S)) (st : StOk X.K cl F G H σ S) (hp : H p = none) (q : OwnAt X.K cl G (upd H p o) p x) : Q (.ref p) (upd H p o) :=
  h p G _ (Same.refl _) (st.allocO hp) (st.free hp) (st.free0 hp) (st.rfree hp) (st.newSlot hp) q
def putO (i : Nat) (x : PV) : M Unit := fun S => match S[i]? with
  | some (some (.i _)) => none
  | none => none
  | _ => some (.ok () (S.set i (some (.o x))))
def mSetO (i : Nat) (m : M PV) : M Fl := bnd m fun x => bnd (putO i x) fun _ => ret .nx
theorem doesF_set {i : Nat} {t : TE} {m : M PV} (d : DoesF X.K cl W t m) : DoesS X.K cl W (tAsg t (gName i)) (mSetO i m) := by
  intro F G H σ S r D st hm hp
  unfold mSetO at hm
  rcases bnd_some hm with ⟨x, S1, e1, e2⟩ | ⟨c, fs, S1, e1, e2⟩
  · rcases bnd_some e2 with ⟨u, S2, e3, e4⟩ | ⟨c, fs, S2, e3, _⟩
    · cases e4
      refine d F G H σ S _ _ st e1 ?_
      intro a G' H' s k hg h0 hR hn q
      unfold putO at e3
      split at e3
      · cases e3
      · cases e3
      · rename_i n1 n2
        cases e3
        exact hp _ G' H' s (k.seto hg h0 hR hn q (io_none k n1))
    · unfold putO at e3
      split at e3 <;> cases e3
  · subst e2
    refine d F G H σ S _ _ st e1 ?_
    exact fun dd gs G' H' s k a b => hp dd gs σ G' H' s k a b
theorem sm_setO {i : Nat} {x : Str} {e : Expr} {m : M PV} {pos' : Pos} (hN : X.N.Nodup) (hi : X.N[i]? = some x) (hx : Loc X.env.scope x) (h : FM X cl W e m) (hs : swapsWith e (some (.Name x pos')) pos.line X.env = pure false := by rfl)
    (hf : X.fn x = true ∨ X.env.scope.names.lookup x = some .local := by first | exact .inl rfl | exact .inr rfl | assumption) : SM X cl W (.Assign [.Name x pos'] e pos) (mSetO i m) := by
  obtain ⟨t, p, d⟩ := h
  exact ⟨_, ps_set hN hi hx p hs hf, doesF_set d⟩
/-! displays -/
theorem Does.stepF {α β : Type} {F : Fr} {G H : Hp} {σ : L2.St} {S : Sto} {R1 : Hp → β → α → Prop} {t1 : L2.St → Hp → (β → Hp → Prop) → Prop} {m1 : M α} {k : α → M PV} {r : Rs PV} {Q1 : β → Hp → Prop} {Q2 : VK}
    (h1 : Does X.K cl W R1 t1 m1) (st : StOk X.K cl F G H σ S) (hm : bnd m1 k S = some r) (hp : PostF X.K cl F W G σ Q2 r)
    (hk : ∀ (y : α) (S1 : Sto) (v : β) (G1 H1 : Hp), m1 S = some (.ok y S1) → k y S1 = some r → Same G G1 → StOk X.K cl F G1 H1 σ S1 → R1 G1 v y → PostF X.K cl F W G1 σ Q2 r → Q1 v H1) : t1 σ H Q1 := by
  unfold bnd at hm
  cases e : m1 S with
  | none =>
    rw [e] at hm
    cases hm
  | some r1 =>
    rw [e] at hm
    cases r1 with
    | ok y S1 =>
      refine h1 F G H σ S _ Q1 st e ?_
      intro v G1 H1 s k1 x
      refine hk y S1 v G1 H1 e hm s k1 x ?_
      cases r with
      | ok x S' => exact fun a G2 H2 s2 => hp a G2 H2 (s.trans s2)
      | ex c fs S' => exact ExP.mono s hp
    | ex c fs S1 =>
      have hm' : Rs.ex c fs S1 = r := Option.some.inj hm
      subst hm'
      exact h1 F G H σ S _ Q1 st e hp
theorem fm_lst {es : List Expr} {ms : List (M PV)} (h : AM X cl W es (mArgs ms)) (hl : ms.length ≤ 1000 := by decide) : FM X cl W (.List es pos) (mLst ms) := by
  obtain ⟨t, p, d⟩ := h
  refine ⟨_, pe_lst p, fun F G H σ S rr Q st hm hp => ?_⟩
  refine d.stepF st hm hp fun y S1 v G1 H1 e1 hm1 s1 st1 rv hp1 => ?_
  cases hm1
  have hz : v.length ≤ sizeLine := by
    rw [rv.length, mArgs_len e1]
    exact Nat.le_trans hl (by decide)
  exact ⟨hz, fun p hn => postF_new hp1 st1 hn ⟨_, upd_same, hz, rv⟩⟩
def mDct : M PV := ret (.dct [])
theorem fm_dct : FM X cl W (.Dict [] [] pos) mDct := ⟨_, pe_dnewK, fun F G H σ S rr Q st hm hp => by
  cases hm
  exact fun p hn => postF_new hp st hn ⟨_, upd_same, .nil⟩⟩

/-! ### builtins -/
theorem repL1 {K : PySem.W.Frag} {H : Hp} {vs : List V} {x : PV} (r : RepL K cl H vs [x]) : ∃ v, vs = [v] ∧ Rep K cl H v x := by
  cases r with
  | cons rv rn =>
    cases rn
    exact ⟨_, rfl, rv⟩
theorem repL2 {K : PySem.W.Frag} {H : Hp} {vs : List V} {x y : PV} (r : RepL K cl H vs [x, y]) : ∃ v w, vs = [v, w] ∧ Rep K cl H v x ∧ Rep K cl H w y := by
  cases r with
  | cons rv rn =>
    obtain ⟨w, rfl, rw'⟩ := repL1 rn
    exact ⟨_, w, rfl, rv, rw'⟩
def CallS (K : PySem.W.Frag) (cl : Nat → Addr) (r : List V → Hp → VK → Prop) (g : List PV → Option PV) : Prop :=
  ∀ (G H : Hp) (vs : List V) (xs : List PV) (z : PV) (Q : VK), Same G H → RepL K cl G vs xs → g xs = some z → (∀ w H', Res1 K cl G H z w H' → Q w H') → r vs H Q
def CallSF (K : PySem.W.Frag) (cl : Nat → Addr) (r : List V → Hp → VK → Prop) (g : List PV → Option PV) : Prop :=
  ∀ (G H : Hp) (vs : List V) (xs : List PV) (z : PV) (Q : VK), Same G H → RepL K cl G vs xs → g xs = some z → (∀ p o, H p = none → OwnAt K cl G (upd H p o) p z → Q (.ref p) (upd H p o)) → r vs H Q
theorem CallS.or {r r' : List V → Hp → VK → Prop} {g g' : List PV → Option PV} (h : CallS X.K cl r g) (h' : CallS X.K cl r' g') : CallS X.K cl (fun xs H Q => r xs H Q ∨ r' xs H Q) (fun xs => match g xs with | some z => some z | none => g' xs) := by
  intro G H vs xs z Q e rl hz k
  dsimp only at hz
  split at hz
  · rename_i z' ez
    cases hz
    exact .inl (h G H vs xs _ Q e rl ez k)
  · exact .inr (h' G H vs xs z Q e rl hz k)
def mCB (g : List PV → Option PV) (ms : List (M PV)) : M PV := bnd (mArgs ms) fun xs => lift (g xs)
theorem does_cb {r : List V → Hp → VK → Prop} {g : List PV → Option PV} {t : TA} {ms : List (M PV)} (hr : CallS X.K cl r g) (da : Does X.K cl W (RL X.K cl) t (mArgs ms)) : Does X.K cl W (RV X.K cl) (tCB r t) (mCB g ms) := by
  intro F G H σ S rr Q st hm hp
  refine da.step (R2 := RV X.K cl) st hm hp fun xs S2 vs G2 H2 hm2 s2 st2 rv hp2 => ?_
  obtain ⟨z, ez, rfl⟩ := lift_eq hm2
  exact hr G2 H2 vs xs z Q st2.ex rv ez fun w H' q => hp2.res1 st2 q
theorem doesF_cb {r : List V → Hp → VK → Prop} {g : List PV → Option PV} {t : TA} {ms : List (M PV)} (hr : CallSF X.K cl r g) (da : Does X.K cl W (RL X.K cl) t (mArgs ms)) : DoesF X.K cl W (tCB r t) (mCB g ms) := by
  intro F G H σ S rr Q st hm hp
  refine da.stepF st hm hp fun xs S2 vs G2 H2 e2 hm2 s2 st2 rv hp2 => ?_
  obtain ⟨z, ez, rfl⟩ := lift_eq hm2
  exact hr G2 H2 vs xs z Q st2.ex rv ez fun p o hn q => postF_new hp2 st2 hn q
theorem em_cb {x : Str} {p : Pos} {e : Expr} {es : List Expr} {id : String} {r : List V → Hp → VK → Prop} {g : List PV → Option PV} {ms : List (M PV)} (hc : CallR X (.builtin id) r) (hr : CallS X.K cl r g) (hm : X.mg x = none) (ha : AM X cl W (e :: es) (mArgs ms)) (hg : Gl X x := by rfl) (hv : bootBuiltins x = some (.builtin id) := by rfl) (hn : x ≠ "__name__" := by decide) (hdb : (x == ("__debug__" : Str)) = false := by decide)
    (he : starEach (e :: es) X.env = (false, eval e X.env) :: starEach es X.env := by rfl) (hpl : (backTo pos (starEach es X.env)).any (·.1) = false := by rfl) : EM X cl W (.Call (.Name x p) (e :: es) [] pos) (mCB g ms) := by
  obtain ⟨t, pa, da⟩ := ha
  exact ⟨_, pe_callB hc hg hm hv pa hn hdb he hpl, does_cb hr da⟩
theorem em_ct {x : Str} {p : Pos} {e : Expr} {es : List Expr} {T : String} {r : List V → Hp → VK → Prop} {g : List PV → Option PV} {ms : List (M PV)} (hc : CallR X (.type T) r) (hr : CallS X.K cl r g) (hm : X.mg x = none) (ha : AM X cl W (e :: es) (mArgs ms)) (hg : Gl X x := by rfl) (hv : bootBuiltins x = some (.type T) := by rfl) (hn : x ≠ "__name__" := by decide) (hdb : (x == ("__debug__" : Str)) = false := by decide)
    (he : starEach (e :: es) X.env = (false, eval e X.env) :: starEach es X.env := by rfl) (hpl : (backTo pos (starEach es X.env)).any (·.1) = false := by rfl) : EM X cl W (.Call (.Name x p) (e :: es) [] pos) (mCB g ms) := by
  obtain ⟨t, pa, da⟩ := ha
  exact ⟨_, pe_callTy hc hg hm hv pa hn hdb he hpl, does_cb hr da⟩
theorem fm_cb {x : Str} {p : Pos} {e : Expr} {es : List Expr} {id : String} {r : List V → Hp → VK → Prop} {g : List PV → Option PV} {ms : List (M PV)} (hc : CallR X (.builtin id) r) (hr : CallSF X.K cl r g) (hm : X.mg x = none) (ha : AM X cl W (e :: es) (mArgs ms)) (hg : Gl X x := by rfl) (hv : bootBuiltins x = some (.builtin id) := by rfl) (hn : x ≠ "__name__" := by decide) (hdb : (x == ("__debug__" : Str)) = false := by decide)
    (he : starEach (e :: es) X.env = (false, eval e X.env) :: starEach es X.env := by rfl) (hpl : (backTo pos (starEach es X.env)).any (·.1) = false := by rfl) : FM X cl W (.Call (.Name x p) (e :: es) [] pos) (mCB g ms) := by
  obtain ⟨t, pa, da⟩ := ha
  exact ⟨_, pe_callB hc hg hm hv pa hn hdb he hpl, doesF_cb hr da⟩
theorem fm_ct {x : Str} {p : Pos} {e : Expr} {es : List Expr} {T : String} {r : List V → Hp → VK → Prop} {g : List PV → Option PV} {ms : List (M PV)} (hc : CallR X (.type T) r) (hr : CallSF X.K cl r g) (hm : X.mg x = none) (ha : AM X cl W (e :: es) (mArgs ms)) (hg : Gl X x := by rfl) (hv : bootBuiltins x = some (.type T) := by rfl) (hn : x ≠ "__name__" := by decide) (hdb : (x == ("__debug__" : Str)) = false := by decide)
    (he : starEach (e :: es) X.env = (false, eval e X.env) :: starEach es X.env := by rfl) (hpl : (backTo pos (starEach es X.env)).any (·.1) = false := by rfl) : FM X cl W (.Call (.Name x p) (e :: es) [] pos) (mCB g ms) := by
  obtain ⟨t, pa, da⟩ := ha
  exact ⟨_, pe_callTy hc hg hm hv pa hn hdb he hpl, doesF_cb hr da⟩
/-- one argument, a name: looked at alone, an atom comes -/
def mCBV (g : List PV → Option PV) (i : Nat) : M PV := opk i fun x => g [x]
theorem am_v {e : Expr} {i : Nat} (h : PE X e (tVar i)) (hs : starEach [e] X.env = (false, eval e X.env) :: starEach [] X.env := by rfl) : PA X [e] (tCons (tVar i) tNil) := pa_cons h pa_nil hs
theorem does_cbV {r : List V → Hp → VK → Prop} {g : List PV → Option PV} {i : Nat} (hr : CallS X.K cl r g) : Does X.K cl W (RV X.K cl) (tCB r (tCons (tVar i) tNil)) (mCBV g i) := by
  intro F G H σ S rr Q st hm hp
  obtain ⟨x, z, e1, ez, hz, rfl⟩ := opk_some hm
  obtain ⟨v, G', ev, s1, s2, rv⟩ := pk_view st e1
  exact ⟨v, ev, hr G' H [v] [x] z Q s2 (.one rv) ez fun w H' q => post_atom hp st hz q⟩
theorem em_cbV {x : Str} {p : Pos} {e : Expr} {i : Nat} {id : String} {r : List V → Hp → VK → Prop} {g : List PV → Option PV} (hc : CallR X (.builtin id) r) (hr : CallS X.K cl r g) (hm : X.mg x = none) (he0 : PE X e (tVar i)) (hg : Gl X x := by rfl) (hv : bootBuiltins x = some (.builtin id) := by rfl) (hn : x ≠ "__name__" := by decide) (hdb : (x == ("__debug__" : Str)) = false := by decide)
    (he : starEach [e] X.env = (false, eval e X.env) :: starEach [] X.env := by rfl) (hpl : (backTo pos (starEach [] X.env)).any (·.1) = false := by rfl) : EM X cl W (.Call (.Name x p) [e] [] pos) (mCBV g i) :=
  ⟨_, pe_callB hc hg hm hv (am_v he0 he) hn hdb he hpl, does_cbV hr⟩
/-! len -/
def pLen : List PV → Option PV
  | [.tup xs] => some (.int xs.length)
  | [.lst xs] => some (.int xs.length)
  | [.frl xs] => some (.int xs.length)
  | [.str z] => some (.int z.length)
  | [.dct kvs] => some (.int kvs.length)
  | _ => none
theorem cr_lenA : CallR X (.builtin "len") (fun xs H Q => (∃ x n, xs = [x] ∧ LenV X.K x H n ∧ Q (.int n) H) ∨ ∃ a kvs, xs = [V.ref a] ∧ H a = some (.dK kvs) ∧ Q (.int kvs.length) H) := call_len.or call_lenD
theorem cs_len : CallS X.K cl (fun xs H Q => (∃ x n, xs = [x] ∧ LenV X.K x H n ∧ Q (.int n) H) ∨ ∃ a kvs, xs = [V.ref a] ∧ H a = some (.dK kvs) ∧ Q (.int kvs.length) H) pLen := by
  intro G H vs xs z Q e rl hz k
  unfold pLen at hz
  split at hz <;> try (cases hz; done)
  all_goals
    cases hz
    obtain ⟨v, rfl, rv⟩ := repL1 rl
  · cases rv with
    | tup hs _ hr => exact .inl ⟨_, _, rfl, .inr ⟨_, sqt_mono e hs, rfl⟩, k _ _ (.inl ⟨rfl, by rw [hr.length]; exact .int _⟩)⟩
  · cases rv with
    | lst hs _ hr => exact .inl ⟨_, _, rfl, .inl ⟨_, SqL.of (e _ _ hs), rfl⟩, k _ _ (.inl ⟨rfl, by rw [hr.length]; exact .int _⟩)⟩
  · cases rv with
    | frl hs => exact .inl ⟨_, _, rfl, .inl ⟨_, e.seq hs, rfl⟩, k _ _ (.inl ⟨rfl, by rw [List.length_map]; exact .int _⟩)⟩
  · cases rv with
    | str _ hl => exact .inl ⟨_, _, rfl, ⟨hl, rfl⟩, k _ _ (.inl ⟨rfl, .int _⟩)⟩
  · cases rv with
    | dct hs hr => exact .inr ⟨_, _, rfl, e _ _ hs, k _ _ (.inl ⟨rfl, by rw [hr.length]; exact .int _⟩)⟩
/-! abs, int, sum, any, all, tuple, list -/
def pAbs : List PV → Option PV
  | [.int i] => some (.int (if i < 0 then -i else i))
  | _ => none
theorem cs_abs : CallS X.K cl (fun xs H Q => ∃ i, xs = [.int i] ∧ Q (.int (if i < 0 then -i else i)) H) pAbs := by
  intro G H vs xs z Q e rl hz k
  unfold pAbs at hz
  split at hz <;> try (cases hz; done)
  cases hz
  cases rl with
  | cons rv rn =>
  cases rn
  cases rv
  exact ⟨_, rfl, k _ _ (.inl ⟨rfl, .int _⟩)⟩
def pInt : List PV → Option PV
  | [.int i] => some (.int i)
  | [.bl b] => some (.int (if b then 1 else 0))
  | _ => none
theorem cs_int : CallS X.K cl (fun xs H Q => (∃ i, xs = [V.int i] ∧ Q (.int i) H) ∨ ∃ k, xs = [V.bl k] ∧ Q (.int (if k then 1 else 0)) H) pInt := by
  intro G H vs xs z Q e rl hz k
  unfold pInt at hz
  split at hz <;> try (cases hz; done)
  · cases hz
    cases rl with
    | cons rv rn =>
    cases rn
    cases rv
    exact .inl ⟨_, rfl, k _ _ (.inl ⟨rfl, .int _⟩)⟩
  · cases hz
    cases rl with
    | cons rv rn =>
    cases rn
    cases rv
    exact .inr ⟨_, rfl, k _ _ (.inl ⟨rfl, .int _⟩)⟩
def intsP : List PV → Option (List Int)
  | [] => some []
  | .int i :: xs => (intsP xs).map (i :: ·)
  | _ => none
def blsP : List PV → Option (List Bool)
  | [] => some []
  | .bl i :: xs => (blsP xs).map (i :: ·)
  | _ => none
theorem ints_rep {K : PySem.W.Frag} {H : Hp} : ∀ {xs : List PV} {ns : List Int} {vs : List V}, intsP xs = some ns → RepL K cl H vs xs → vs = ns.map V.int
  | [], ns, vs, h, r => by cases h; cases r; rfl
  | x :: xs, ns, vs, h, r => by
    cases x <;> try (cases h; done)
    unfold intsP at h
    cases e : intsP xs with
    | none => rw [e] at h; cases h
    | some ms =>
      rw [e] at h
      cases h
      cases r with
      | cons rv rs =>
        cases rv
        rw [ints_rep e rs]
        rfl
theorem bls_rep {K : PySem.W.Frag} {H : Hp} : ∀ {xs : List PV} {ns : List Bool} {vs : List V}, blsP xs = some ns → RepL K cl H vs xs → vs = ns.map V.bl
  | [], ns, vs, h, r => by cases h; cases r; rfl
  | x :: xs, ns, vs, h, r => by
    cases x <;> try (cases h; done)
    unfold blsP at h
    cases e : blsP xs with
    | none => rw [e] at h; cases h
    | some ms =>
      rw [e] at h
      cases h
      cases r with
      | cons rv rs =>
        cases rv
        rw [bls_rep e rs]
        rfl
def pSum : List PV → Option PV
  | [.lst xs] => (intsP xs).map fun ns => .int ns.sum
  | _ => none
theorem cs_sum : CallS X.K cl (rSum X.K) pSum := by
  intro G H vs xs z Q e rl hz k
  unfold pSum at hz
  split at hz <;> try (cases hz; done)
  rename_i ys
  cases q : intsP ys with
  | none => rw [q] at hz; cases hz
  | some ns =>
    rw [q] at hz
    cases hz
    cases rl with
    | cons rv rn =>
    cases rn
    cases rv with
    | lst hs _ hr => exact ⟨_, ns, rfl, by rw [← ints_rep q hr]; exact SqL.of (e _ _ hs), k _ _ (.inl ⟨rfl, .int _⟩)⟩
def pAny : List PV → Option PV
  | [.lst xs] => (blsP xs).map fun ns => .bl (ns.any id)
  | _ => none
def pAll : List PV → Option PV
  | [.lst xs] => (blsP xs).map fun ns => .bl (ns.all id)
  | _ => none
theorem cs_any : CallS X.K cl (rAny X.K) pAny := by
  intro G H vs xs z Q e rl hz k
  unfold pAny at hz
  split at hz <;> try (cases hz; done)
  rename_i ys
  cases q : blsP ys with
  | none => rw [q] at hz; cases hz
  | some ns =>
    rw [q] at hz
    cases hz
    cases rl with
    | cons rv rn =>
    cases rn
    cases rv with
    | lst hs _ hr => exact ⟨_, ns, rfl, by rw [← bls_rep q hr]; exact SqL.of (e _ _ hs), k _ _ (.inl ⟨rfl, .bl _⟩)⟩
theorem cs_all : CallS X.K cl (rAll X.K) pAll := by
  intro G H vs xs z Q e rl hz k
  unfold pAll at hz
  split at hz <;> try (cases hz; done)
  rename_i ys
  cases q : blsP ys with
  | none => rw [q] at hz; cases hz
  | some ns =>
    rw [q] at hz
    cases hz
    cases rl with
    | cons rv rn =>
    cases rn
    cases rv with
    | lst hs _ hr => exact ⟨_, ns, rfl, by rw [← bls_rep q hr]; exact SqL.of (e _ _ hs), k _ _ (.inl ⟨rfl, .bl _⟩)⟩
def pTuple : List PV → Option PV
  | [.lst xs] => some (.tup xs)
  | [.tup xs] => some (.tup xs)
  | _ => none
theorem cr_tuple : CallR X (.type "tuple") (rTupleOfF X.K) := cr_tupleF
theorem cs_tuple : CallS X.K cl (rTupleOfF X.K) pTuple := by
  intro G H vs xs z Q e rl hz k
  unfold pTuple at hz
  split at hz <;> try (cases hz; done)
  all_goals
    cases hz
    obtain ⟨v, rfl, rv⟩ := repL1 rl
  · cases rv with
    | lst hs hl hr => exact ⟨_, _, rfl, .inl ⟨SqL.of (e _ _ hs), fun p o ho hn => k _ _ (.inr ⟨p, _, hn, rfl, .tup (tupAt_new ho) hl (hr.mono (same_new (e.free hn)))⟩)⟩⟩
  · cases rv with
    | tup hs hl hr => exact ⟨_, _, rfl, .inr ⟨sqt_mono e hs, k _ _ (.inl ⟨rfl, .tup hs hl hr⟩)⟩⟩
def pList : List PV → Option PV
  | [.lst xs] => some (.lst xs)
  | [.tup xs] => some (.lst xs)
  | _ => none
def rListOf (K : PySem.W.Frag) : List V → Hp → VK → Prop := fun xs H Q => ∃ p ys, xs = [V.ref p] ∧ (SqL K H p ys ∨ SqT K H p ys) ∧ ∀ l, H l = none → Q (.ref l) (upd H l (.lst ys))
theorem cr_list : CallR X (.type "list") (rListOf X.K) := call_list_of
theorem cs_list : CallSF X.K cl (rListOf X.K) pList := by
  intro G H vs xs z Q e rl hz k
  unfold pList at hz
  split at hz <;> try (cases hz; done)
  all_goals
    cases hz
    obtain ⟨v, rfl, rv⟩ := repL1 rl
  · cases rv with
    | lst hs hl hr => exact ⟨_, _, rfl, .inl (SqL.of (e _ _ hs)), fun p hn => k p _ hn ⟨_, upd_same, hl, hr⟩⟩
  · cases rv with
    | tup hs hl hr => exact ⟨_, _, rfl, .inr (sqt_mono e hs), fun p hn => k p _ hn ⟨_, upd_same, hl, hr⟩⟩
end
end Kp
set_option Elab.async false
set_option linter.all false
set_option maxRecDepth 100000
set_option maxHeartbeats 2000000
namespace Kp
open PySem PyProof.Rows L2

section
variable {X : Cx} {cl : Nat → Addr} {W : WX} {pos : Pos}
/-! ### a comprehension's list, to be changed -/
theorem doesF_lc {vs : List Nat} {wi : TI} {tg : TG} {tt : TT} {te : TE} {mi : M (List PV)} {g : PV → Sto → Option Sto} {mt : M Bool} {me : M PV} (hi : DoesI X.K cl W wi mi) (hg : DoesG X.K cl tg g) (hgi : gIn vs tg)
    (ht : Does X.K cl W0 RB tt mt) (he : Does X.K cl W0 (RV X.K cl) te me) : DoesF X.K cl W (tLc wi tg tt te vs) (mLc vs mi g mt me) := by
  intro F G H σ S r Q st hm hp
  unfold mLc at hm
  split at hm <;> try (cases hm; done)
  rename_i ys S1 e1
  split at hm <;> try (cases hm; done)
  rename_i c
  obtain ⟨hlen, hpl⟩ := c
  split at hm <;> try (cases hm; done)
  rename_i zs S2 eg
  cases hm
  refine hi F G H σ S ys S1 _ st e1 fun J G1 H1 s1 st1 hw => ?_
  intro D hD
  have plain : ∀ i ∈ vs, ∀ y, S1[i]? = some (some y) → ∃ x, y = .p x := fun i hi y e => by
    have := List.all_eq_true.mp hpl i hi
    rw [e] at this
    cases y with
    | p x => exact ⟨x, rfl⟩
    | o x => cases this
    | i x => cases this
  have hio : ∀ i ∈ vs, F.io i = none := fun i hi => by
    cases q : F.io i with
    | none => rfl
    | some a =>
      obtain ⟨x, hx⟩ := st1.io i a q
      have := List.all_eq_true.mp hpl i hi
      rw [hx] at this
      cases this
  have fr := st1.rfree hD
  have stw := st1.wiped (σ := σ) (vs := vs) rfl hio
  have hfresh : ∀ (i : Nat) (x : PV), (wipeS S1 vs)[i]? = some (some (.o x)) → (wipe σ vs)[i]? ≠ some (some (V.ref D)) := fun i x e z => by
    obtain ⟨a, ea, _, _, q⟩ := stw.own i x e
    rw [z] at ea
    cases ea
    obtain ⟨o, ho⟩ := q.there
    rw [hD] at ho
    cases ho
  have st2 := stw.rsvNew (o := .lst []) hD hfresh
  -- the turns
  refine ⟨fun i n H' => n + i = ys.length ∧ ∃ (G' : Hp) (S' : Sto) (acc : List V) (done rest : List PV), Same G1 G' ∧ acc.length ≤ i ∧ StOk X.K cl { F with R := fun b => if b = D then some (.lst acc) else F.R b } G' H' (wipe σ vs) S' ∧ RepL X.K cl G' acc done ∧
    done ++ rest = zs ∧ lcGo vs g mt me (ys.drop i) S' = some (rest, S2), ⟨ys.length, Nat.add_zero _, G1, _, [], [], zs, Same.refl _, Nat.zero_le _, st2, .nil, rfl, eg⟩, ?_⟩
  rintro i n H' ⟨hn, G', S', acc, dn, rest, s', hacc, st', rl, hz, hl⟩
  obtain ⟨hgo, hstop⟩ := hw i G' H' s' st'.ex
  cases e : ys[i]? with
  | none =>
    have hle : ys.length ≤ i := List.getElem?_eq_none_iff.mp e
    refine .inl ⟨hstop hle, ?_⟩
    rw [List.drop_eq_nil_of_le hle] at hl
    unfold lcGo at hl
    cases hl
    rw [List.append_nil] at hz
    subst hz
    obtain ⟨st3, hD3, gD, h0D, hnD⟩ := st'.rsvOwn fr
    have hzl : acc.length ≤ sizeLine := by
      rw [rl.length]
      exact Nat.le_trans (lcGo_len eg) hlen
    refine hp _ _ _ (s1.trans s') (StOk.back st1 s' st3 plain hio) gD h0D fr (fun j y q z => ?_) ⟨acc, hD3, hzl, rl⟩
    by_cases zz : j ∈ vs
    · obtain ⟨w, hw'⟩ := plain j zz _ (backS_in zz q)
      cases hw'
    · rw [backS_out zz] at q
      exact hnD j y q (by rw [wipe_out zz]; exact z)
  | some y =>
    obtain ⟨hlt, _⟩ := List.getElem?_eq_some_iff.mp e
    have hd : ys.drop i = y :: ys.drop (i + 1) := by
      rw [List.drop_eq_getElem_cons hlt]
      have : ys[i] = y := by
        have := List.getElem?_eq_getElem hlt
        rw [e] at this
        exact (Option.some.inj this).symm
      rw [this]
    rw [hd] at hl
    unfold lcGo at hl
    obtain ⟨go, hy⟩ := hgo y e
    refine .inr ⟨go, fun H3 => (n - 1) + (i + 1) = ys.length ∧ ∃ (G' : Hp) (S' : Sto) (acc : List V) (done rest : List PV), Same G1 G' ∧ acc.length ≤ i + 1 ∧ StOk X.K cl { F with R := fun b => if b = D then some (.lst acc) else F.R b } G' H3 (wipe σ vs) S' ∧ RepL X.K cl G' acc done ∧
      done ++ rest = zs ∧ lcGo vs g mt me (ys.drop (i + 1)) S' = some (rest, S2), fun H3 q => ⟨n - 1, by omega, q⟩, fun x H3 hx => ?_⟩
    obtain ⟨G3, s3, st3, r3⟩ := st'.res1 (hy x H3 hx)
    cases eg1 : g y S' with
    | none => rw [eg1] at hl; cases hl
    | some Sg =>
      rw [eg1] at hl
      refine hgi x σ H3 (fun σ' H' => H' = H3 ∧ StOk X.K cl { F with R := fun b => if b = D then some (.lst acc) else F.R b } G3 H3 σ' Sg) _ (hg _ G3 H3 _ S' Sg x y _ st3 r3 eg1 fun σ4 st4 => ⟨rfl, st4⟩) fun σ4 H4 hwσ q4 => ⟨hwσ, ?_⟩
      obtain ⟨rfl, st4⟩ := q4
      simp only [] at hl
      cases et : mt Sg with
      | none => rw [et] at hl; cases hl
      | some rt =>
        rw [et] at hl
        cases rt with
        | ex c fs S5 => cases hl
        | ok b S5 =>
          refine ht _ G3 _ σ4 Sg _ _ st4 et ?_
          intro b' G5 H5 s5 st5 hb
          cases hb
          cases b with
          | false =>
            simp only [] at hl
            rw [if_neg Bool.false_ne_true]
            exact ⟨by omega, G5, _, acc, dn, rest, (s'.trans s3).trans s5, Nat.le_succ_of_le hacc, st5.wiped hwσ hio, (rl.mono s3).mono s5, hz, hl⟩
          | true =>
            simp only [] at hl
            rw [if_pos rfl]
            cases ee : me S5 with
            | none => rw [ee] at hl; cases hl
            | some re =>
              rw [ee] at hl
              cases re with
              | ex c fs S6 => cases hl
              | ok z S6 =>
                simp only [] at hl
                cases eg6 : lcGo vs g mt me (ys.drop (i + 1)) (wipeS S6 vs) with
                | none => rw [eg6] at hl; cases hl
                | some q6 =>
                  obtain ⟨zs6, S7⟩ := q6
                  rw [eg6] at hl
                  cases hl
                  refine he _ G5 H5 σ4 S5 _ _ st5 ee ?_
                  intro w G6 H6 s6 st6 rw'
                  have hH := (st6.rsv D (.lst acc) (if_pos rfl)).1
                  refine ⟨acc, hH, by omega, by omega, G6, _, acc ++ [w], dn ++ [z], zs6, ((s'.trans s3).trans s5).trans s6, by rw [List.length_append, List.length_singleton]; omega,
                    StOk.rsvSet (st6.wiped hwσ hio), (((rl.mono s3).mono s5).mono s6).append (.one rw'), by rw [List.append_assoc]; exact hz, eg6⟩

/-- what a comprehension consists of -/
structure LcM (X : Cx) (cl : Nat → Addr) (W : WX) (elt tg iter : Expr) (ifs : List Expr) (scope : Scope) (own : List (Str × Nat)) (mi : M (List PV)) (g : PV → Sto → Option Sto) (mt : M Bool) (me : M PV) : Prop where
  hi : IM X cl W tg iter mi
  ok : BlkOk X.N X.env.scope scope own
  hg : ∃ t, (∀ (s : Shared) (H : Hp) (C : Addr) (cl' : List (Str × Addr)) (fp : List Addr), PG (X.blk s H scope (compEnvC scope cl' C X.env) fp) tg t) ∧ DoesG X.K cl t g ∧ gIn (own.map (·.2)) t
  ht : ∃ tt, (∀ (s : Shared) (H : Hp) (C : Addr) (cl' : List (Str × Addr)) (fp : List Addr), PTs (X.blk s H scope (compEnvC scope cl' C X.env) fp) ifs tt) ∧ Does X.K cl W0 RB tt mt
  he : ∃ te, (∀ (s : Shared) (H : Hp) (C : Addr) (cl' : List (Str × Addr)) (fp : List Addr), PE (X.blk s H scope (compEnvC scope cl' C X.env) fp) elt te) ∧ Does X.K cl W0 (RV X.K cl) te me
section
variable {elt tg iter : Expr} {ifs : List Expr} {scope : Scope} {own : List (Str × Nat)} {mi : M (List PV)} {g : PV → Sto → Option Sto} {mt : M Bool} {me : M PV}
theorem LcM.em (h : LcM X cl W elt tg iter ifs scope own mi g mt me) (hc : X.calm = true) (hN : X.N.Nodup) (hs : ∀ x, foldedSetIterable iter X.env x = pure x := by intro _; rfl) : EM X cl W (.ListComp elt [⟨tg, iter, ifs, 0⟩] scope pos) (mLc (own.map (·.2)) mi g mt me) := by
  obtain ⟨t, pg, dg, gi⟩ := h.hg
  exact em_lc hc hN h.hi h.ok pg dg gi h.ht h.he hs
theorem LcM.fm (h : LcM X cl W elt tg iter ifs scope own mi g mt me) (hc : X.calm = true) (hN : X.N.Nodup) (hs : ∀ x, foldedSetIterable iter X.env x = pure x := by intro _; rfl) : FM X cl W (.ListComp elt [⟨tg, iter, ifs, 0⟩] scope pos) (mLc (own.map (·.2)) mi g mt me) := by
  obtain ⟨t, pg, dg, gi⟩ := h.hg
  obtain ⟨wi, pi, di⟩ := h.hi
  obtain ⟨tt, pt, dt⟩ := h.ht
  obtain ⟨te, pe, de⟩ := h.he
  exact ⟨_, pe_lc hc hN pi h.ok pg pt pe hs, doesF_lc di dg gi dt de⟩
/-- name = [..] -/
theorem LcM.set {i : Nat} {y : Str} {py spos : Pos} (h : LcM X cl W elt tg iter ifs scope own mi g mt me) (hc : X.calm = true) (hN : X.N.Nodup) (hy : X.N[i]? = some y) (hyl : X.env.scope.names.lookup y = some .local)
    (hsw : swapsWith (.ListComp elt [⟨tg, iter, ifs, 0⟩] scope pos) (some (.Name y py)) spos.line X.env = pure true) (hs : ∀ x, foldedSetIterable iter X.env x = pure x := by intro _; rfl) :
    SM X cl W (.Assign [.Name y py] (.ListComp elt [⟨tg, iter, ifs, 0⟩] scope pos) spos) (mSet i (mLc (own.map (·.2)) mi g mt me)) := by
  obtain ⟨t, pg, dg, gi⟩ := h.hg
  obtain ⟨wi, pi, di⟩ := h.hi
  obtain ⟨tt, pt, dt⟩ := h.ht
  obtain ⟨te, pe, de⟩ := h.he
  refine ⟨_, ps_setLc hc hN hy hyl hsw pi h.ok pg pt pe hs, fun F G H σ S r D st hm hp => ?_⟩
  refine (does_lc di dg gi dt de).stepS st hm hp fun y S1 v G1 H1 hm1 s1 st1 rv hp1 => ?_
  obtain ⟨S2, h2, h3⟩ := bnd_put hm1
  cases h3
  exact hp1 _ G1 H1 (Same.refl _) (put_ok st1 h2 rv)
theorem LcM.setO {i : Nat} {y : Str} {py spos : Pos} (h : LcM X cl W elt tg iter ifs scope own mi g mt me) (hc : X.calm = true) (hN : X.N.Nodup) (hy : X.N[i]? = some y) (hyl : X.env.scope.names.lookup y = some .local)
    (hsw : swapsWith (.ListComp elt [⟨tg, iter, ifs, 0⟩] scope pos) (some (.Name y py)) spos.line X.env = pure true) (hs : ∀ x, foldedSetIterable iter X.env x = pure x := by intro _; rfl) :
    SM X cl W (.Assign [.Name y py] (.ListComp elt [⟨tg, iter, ifs, 0⟩] scope pos) spos) (mSetO i (mLc (own.map (·.2)) mi g mt me)) := by
  obtain ⟨t, pg, dg, gi⟩ := h.hg
  obtain ⟨wi, pi, di⟩ := h.hi
  obtain ⟨tt, pt, dt⟩ := h.ht
  obtain ⟨te, pe, de⟩ := h.he
  exact ⟨_, ps_setLc hc hN hy hyl hsw pi h.ok pg pt pe hs, doesF_set (doesF_lc di dg gi dt de)⟩
end

/-! ### ranges, texts -/
def rangeP (lo : Int) (n : Nat) : List PV := (List.range n).map fun i : Nat => PV.int (lo + (i : Int))
theorem rangeP_get {lo : Int} {n i : Nat} : (rangeP lo n)[i]? = if i < n then some (.int (lo + (i : Int))) else none := by
  unfold rangeP
  rw [List.getElem?_map]
  by_cases h : i < n
  · rw [if_pos h, List.getElem?_range h]
    rfl
  · rw [if_neg h, List.getElem?_eq_none (by rw [List.length_range]; omega)]
    rfl
theorem rangeP_len {lo : Int} {n : Nat} : (rangeP lo n).length = n := by
  unfold rangeP
  rw [List.length_map, List.length_range]
theorem walks_range {G : Hp} {lo : Int} {n : Nat} : Walks X.K cl (Itr lo n) G (rangeP lo n) := by
  intro i G2 H2 s1 s2
  refine ⟨fun y e => ?_, fun e => by rw [rangeP_len] at e; exact e⟩
  rw [rangeP_get] at e
  split at e <;> try (cases e; done)
  rename_i hi
  cases e
  refine ⟨hi, fun x H3 hy => ?_⟩
  obtain ⟨e3, rfl⟩ := hy
  exact .inl ⟨e3, .int _⟩
def inR (j : Int) : Bool := decide (-(2 ^ 62) ≤ j) && decide (j < 2 ^ 62)
def mRng1 (m : M PV) : M (List PV) := bnd m fun x => match x with
  | .int j => if inR j = true then ret (rangeP 0 j.toNat) else fun _ => none
  | _ => fun _ => none
def mRng2 (m n : M PV) : M (List PV) := bnd m fun x => bnd n fun y => match x, y with
  | .int i, .int j => if inR i = true ∧ inR j = true then ret (rangeP i (j - i).toNat) else fun _ => none
  | _, _ => fun _ => none
theorem im_rng1 {tg a : Expr} {m : M PV} {p : Pos} (h : EM X cl W a m) (hm : X.mg "range" = none) (hg : Gl X "range" := by rfl) (hs : starEach [a] X.env = [(false, eval a X.env)] := by rfl) : IM X cl W tg (.Call (.Name "range" p) [a] [] pos) (mRng1 m) := by
  obtain ⟨t, pe, d⟩ := h
  refine ⟨_, pi_range1 hg hm (pa_cons pe pa_nil hs) hs, fun F G H σ S ys S' R st hm k => ?_⟩
  rcases bnd_some hm with ⟨x, S1, e1, e2⟩ | ⟨c, fs, S1, _, e2⟩
  · cases x <;> try (cases e2; done)
    dsimp only at e2
    split at e2 <;> try (cases e2; done)
    rename_i j c
    cases e2
    refine d F G H σ S _ _ st e1 fun v G1 H1 s1 st1 rv => ?_
    cases rv
    simp only [inR, Bool.and_eq_true, decide_eq_true_eq] at c
    exact ⟨j, rfl, c.1, c.2, k _ G1 H1 s1 st1 walks_range⟩
  · cases e2
theorem im_rng2 {tg a b : Expr} {m n : M PV} {p : Pos} (h : EM X cl W a m) (h2 : EM X cl W b n) (hm : X.mg "range" = none) (hg : Gl X "range" := by rfl) (hs : starEach [a, b] X.env = [(false, eval a X.env), (false, eval b X.env)] := by rfl) (hs2 : starEach [b] X.env = [(false, eval b X.env)] := by rfl) : IM X cl W tg (.Call (.Name "range" p) [a, b] [] pos) (mRng2 m n) := by
  obtain ⟨t, pe, d⟩ := h
  obtain ⟨u, pf, du⟩ := h2
  refine ⟨_, pi_range2 hg hm (pa_cons pe (pa_cons pf pa_nil hs2) (by rw [hs, hs2])) hs hs2, fun F G H σ S ys S' R st hm k => ?_⟩
  rcases bnd_some hm with ⟨x, S1, e1, e2⟩ | ⟨c, fs, S1, _, e2⟩
  · rcases bnd_some e2 with ⟨y, S2, e3, e4⟩ | ⟨c, fs, S2, _, e4⟩
    · cases x <;> try (cases e4; done)
      cases y <;> try (cases e4; done)
      dsimp only at e4
      split at e4 <;> try (cases e4; done)
      rename_i i j c
      cases e4
      refine d F G H σ S _ _ st e1 fun v G1 H1 s1 st1 rv => ?_
      refine du F G1 H1 σ S1 _ _ st1 e3 fun w G2 H2 s2 st2 rw' => ?_
      cases rv
      cases rw'
      simp only [inR, Bool.and_eq_true, decide_eq_true_eq] at c
      exact ⟨i, j, rfl, ⟨c.1.1, c.1.2, c.2.1, c.2.2⟩, k _ G2 H2 (s1.trans s2) st2 walks_range⟩
    · cases e4
  · cases e2
def charsP (x : Str) : List PV := x.cps.toList.map fun c => .str ⟨#[c]⟩
theorem walks_str {G : Hp} {x : Str} : Walks X.K cl (Its x) G (charsP x) := by
  intro i G2 H2 s1 s2
  refine ⟨fun y e => ?_, fun e => ?_⟩
  · unfold charsP at e
    rw [List.getElem?_map] at e
    cases q : x.cps.toList[i]? with
    | none => rw [q] at e; cases e
    | some c =>
      rw [q] at e
      cases e
      rw [Array.getElem?_toList] at q
      refine ⟨(Array.getElem?_eq_some_iff.mp q).1, fun z H3 hy => ?_⟩
      obtain ⟨e3, c', hc, rfl⟩ := hy
      rw [q] at hc
      cases hc
      exact .inl ⟨e3, .str _ (by show 1 ≤ sizeLine; decide)⟩
  · unfold charsP at e
    rw [List.length_map] at e
    show x.cps.size ≤ i
    rw [← Array.length_toList]
    exact e
def mIterS (m : M PV) : M (List PV) := bnd m fun x => match x with
  | .str z => ret (charsP z)
  | _ => fun _ => none
theorem im_str {tg l : Expr} {m : M PV} (h : EM X cl W l m) : IM X cl W tg l (mIterS m) := by
  obtain ⟨t, p, d⟩ := h
  refine ⟨_, pi_str p, fun F G H σ S ys S' R st hm k => ?_⟩
  rcases bnd_some hm with ⟨x, S1, e1, e2⟩ | ⟨c, fs, S1, _, e2⟩
  · cases x <;> try (cases e2; done)
    cases e2
    refine d F G H σ S _ _ st e1 fun v G1 H1 s1 st1 rv => ?_
    cases rv
    exact ⟨_, rfl, k _ G1 H1 s1 st1 walks_str⟩
  · cases e2
/-- any of the kinds (which one is told by the derivation's value) -/
theorem pi_or {tg e : Expr} {t u : TI} (h : PI X tg e t) (h' : PI X tg e u) : PI X tg e (fun σ H R => t σ H R ∨ u σ H R) :=
  ⟨fun pins s σ H R I q => q.elim (fun q => h.run pins s σ H R I q) fun q => h'.run pins s σ H R I q⟩
def mIterA (m : M PV) : M (List PV) := bnd m fun x => match x with
  | .lst xs => ret xs
  | .frl ns => ret (ns.map PV.int)
  | .tup xs => ret xs
  | .str z => ret (charsP z)
  | _ => fun _ => none
theorem im_any {tg l : Expr} {m : M PV} (h : EM X cl W l m) : IM X cl W tg l (mIterA m) := by
  obtain ⟨t, p, d⟩ := h
  refine ⟨_, pi_or (pi_list p) (pi_or (pi_tup p) (pi_str p)), fun F G H σ S ys S' R st hm k => ?_⟩
  rcases bnd_some hm with ⟨x, S1, e1, e2⟩ | ⟨c, fs, S1, _, e2⟩
  · cases x <;> try (cases e2; done)
    · cases e2
      refine .inr (.inr (d F G H σ S _ _ st e1 fun v G1 H1 s1 st1 rv => ?_))
      cases rv
      exact ⟨_, rfl, k _ G1 H1 s1 st1 walks_str⟩
    · cases e2
      refine .inr (.inl (d F G H σ S _ _ st e1 fun v G1 H1 s1 st1 rv => ?_))
      cases rv with
      | tup hs hz hr => exact ⟨_, rfl, ⟨_, sqt_mono st1.ex hs⟩, k _ G1 H1 s1 st1 (walks_tup hs hr)⟩
    · cases e2
      refine .inl (d F G H σ S _ _ st e1 fun v G1 H1 s1 st1 rv => ?_)
      cases rv with
      | lst hs hz hr => exact ⟨_, rfl, ⟨_, .inl (.inl (st1.ex _ _ hs))⟩, k _ G1 H1 s1 st1 (walks_list (.inl (.inl hs)) hr)⟩
    · cases e2
      refine .inl (d F G H σ S _ _ st e1 fun v G1 H1 s1 st1 rv => ?_)
      cases rv with
      | frl hs => exact ⟨_, rfl, ⟨_, st1.ex.seq hs⟩, k _ G1 H1 s1 st1 (walks_list hs (repL_ints _))⟩
  · cases e2
end
end Kp
set_option Elab.async false
set_option linter.all false
set_option maxRecDepth 100000
set_option maxHeartbeats 2000000
namespace Kp
open PySem PyProof.Rows L2

/-! ### isinstance -/
def tyN : PV → Option String
  | .non => some "NoneType"
  | .bl _ => some "bool"
  | .int _ => some "int"
  | .str _ => some "str"
  | .tup _ => some "tuple"
  | .lst _ => some "list"
  | .dct _ => some "dict"
  | _ => none
/-- what an own class's record says for isinstance -/
structure InsF (K : PySem.W.Frag) (C : Addr) : Prop where
  cl : Cls K C
  ha : PySem.W.findIn K (.ref C) "__class__" = some (some (.builtin "object.__class__"))
  hn : PySem.W.specialIn K (.builtin "object.__class__") "__get__" = some (some (.builtin "getset_descriptor.__get__"))
  htk : PySem.W.takesIn K (.builtin "object.__class__") = some true
  hm : PySem.W.mroIn K C (.type "object") = some true
section
variable {K : PySem.W.Frag} {cl : Nat → Addr} {G H : Hp}
theorem tyx_rep {v : V} {x : PV} {t : String} (e : Same G H) (r : Rep K cl G v x) (h : tyN x = some t) : TyX K H v (.type t) := by
  cases r with
  | non => cases h; exact .base .non
  | bl b => cases h; exact .base (.bl b)
  | int i => cases h; exact .base (.int i)
  | str x _ => cases h; exact .base (.str x)
  | frl _ => cases h
  | tup hs _ _ =>
    cases h
    rcases hs with ⟨o, _, hs⟩ | ⟨o, its, n, h1, h2, _⟩
    · exact .fTuple (e _ _ hs)
    · exact .kTuple h1 h2
  | lst hs _ _ => cases h; exact .base (.lst (e _ _ hs))
  | dct hs _ => cases h; exact .base (.dK (e _ _ hs))
  | obj _ _ => cases h
  | glb _ => cases h
  | xo _ _ => cases h
  | raw _ => cases h
theorem tyx_obj {v : V} {c : Nat} {fs : List (Str × PV)} (e : Same G H) (r : Rep K cl G v (.obj c fs)) (f : InsF K (cl c)) : TyX K H v (.ref (cl c)) := by
  cases r with
  | obj hs _ => exact .base (.ins (e _ _ hs) f.cl f.ha f.hn f.htk f.hm)
end
def tyVl (cl : Nat → Addr) : PV → Option Value
  | .obj c _ => some (.ref (cl c))
  | x => (tyN x).map Value.type
/-- an answer to isinstance(x, u) that is right -/
def IsaOk (K : PySem.W.Frag) (cl : Nat → Addr) (u : Value) (ans : PV → Option Bool) : Prop :=
  ∀ (x : PV) (b : Bool), ans x = some b → ∃ t, tyVl cl x = some t ∧ (∀ (G H : Hp) (v : V), Same G H → Rep K cl G v x → TyX K H v t) ∧ PySem.W.kitOne K t u = some b
/-- of a built-in type; oc tells own classes' instances -/
def ansT (oc : Nat → Option Bool) (T : String) (x : PV) : Option Bool := match x with
  | .obj c _ => oc c
  | x => match tyN x with
    | some t => kitB t T
    | none => none
theorem tyVl_data {cl : Nat → Addr} {x : PV} {t : String} (h : tyN x = some t) : tyVl cl x = some (.type t) := by
  cases x <;> first | (cases h; rfl) | cases h
theorem isa_T {K : PySem.W.Frag} {cl : Nat → Addr} {oc : Nat → Option Bool} {T : String} (h : ∀ c b, oc c = some b → InsF K (cl c) ∧ PySem.W.kitOne K (.ref (cl c)) (.type T) = some b) : IsaOk K cl (.type T) (ansT oc T) := by
  intro x b ha
  by_cases q : ∃ c fs, x = .obj c fs
  · obtain ⟨c, fs, rfl⟩ := q
    obtain ⟨h1, h2⟩ := h c b ha
    exact ⟨_, rfl, fun G H v e r => tyx_obj e r h1, h2⟩
  · have ha' : (match tyN x with | some t => kitB t T | none => none) = some b := by
      unfold ansT at ha
      split at ha
      · rename_i c fs
        exact absurd ⟨c, fs, rfl⟩ q
      · exact ha
    cases et : tyN x with
    | none => rw [et] at ha'; cases ha'
    | some t =>
      rw [et] at ha'
      exact ⟨_, tyVl_data et, fun G H v e r => tyx_rep e r et, kit_ty ha'⟩
def noOc : Nat → Option Bool := fun _ => none
theorem isa_T0 {K : PySem.W.Frag} {cl : Nat → Addr} {T : String} : IsaOk K cl (.type T) (ansT noOc T) := isa_T fun c b h => by cases h
/-- of an own class -/
def ansO (oc : Nat → Option Bool) (x : PV) : Option Bool := match x with
  | .obj c _ => oc c
  | x => match tyN x with
    | some _ => some false
    | none => none
theorem isa_O {K : PySem.W.Frag} {cl : Nat → Addr} {oc : Nat → Option Bool} {C : Addr} (h : ∀ c b, oc c = some b → InsF K (cl c) ∧ PySem.W.kitOne K (.ref (cl c)) (.ref C) = some b) (h2 : ∀ x t, tyN x = some t → PySem.W.kitOne K (.type t) (.ref C) = some false) : IsaOk K cl (.ref C) (ansO oc) := by
  intro x b ha
  by_cases q : ∃ c fs, x = .obj c fs
  · obtain ⟨c, fs, rfl⟩ := q
    obtain ⟨h1, h2⟩ := h c b ha
    exact ⟨_, rfl, fun G H v e r => tyx_obj e r h1, h2⟩
  · have ha' : (match tyN x with | some _ => some false | none => none) = some b := by
      unfold ansO at ha
      split at ha
      · rename_i c fs
        exact absurd ⟨c, fs, rfl⟩ q
      · exact ha
    cases et : tyN x with
    | none => rw [et] at ha'; cases ha'
    | some t =>
      rw [et] at ha'
      cases ha'
      exact ⟨_, tyVl_data et, fun G H v e r => tyx_rep e r et, h2 x t et⟩
/-- a tuple of answers -/
def ansAny : List (PV → Option Bool) → PV → Option Bool
  | [], _ => some false
  | a :: as, x => match a x with
    | some true => some true
    | some false => ansAny as x
    | none => none
section
variable {X : Cx} {cl : Nat → Addr} {W : WX} {pos : Pos}
def mIsa (ans : PV → Option Bool) (m : M PV) : M PV := bnd m fun x => lift ((ans x).map PV.bl)
theorem em_isa {x : Expr} {c : Expr} {cv : V} {u : Value} {ans : PV → Option Bool} {m : M PV} {p : Pos} (h : IsaOk X.K cl u ans) (hv : ClsV cv u) (hm : X.mg "isinstance" = none) (hx : EM X cl W x m) (hc : PE X c (tC cv)) (hg : Gl X "isinstance" := by rfl)
    (he : starEach [x, c] X.env = (false, eval x X.env) :: starEach [c] X.env := by rfl) (he2 : starEach [c] X.env = (false, eval c X.env) :: starEach [] X.env := by rfl) (hpl : (backTo pos (starEach [c] X.env)).any (·.1) = false := by rfl) :
    EM X cl W (.Call (.Name "isinstance" p) [x, c] [] pos) (mIsa ans m) := by
  obtain ⟨t, pe, d⟩ := hx
  refine ⟨_, pe_callB call_isi hg hm PyProof.Rows.boot_isinstance (pa_cons pe (pa_cons hc pa_nil he2) he) (by decide) (by decide) he hpl, fun F G H σ S rr Q st hm hp => ?_⟩
  refine d.step (R2 := RV X.K cl) st hm hp fun y S1 v G1 H1 hm1 s1 st1 rv hp1 => ?_
  obtain ⟨z, ez, rfl⟩ := lift_eq hm1
  cases ea : ans y with
  | none => rw [ea] at ez; cases ez
  | some b =>
    rw [ea] at ez
    cases ez
    obtain ⟨t, _, h1, h2⟩ := h y b ea
    exact ⟨v, cv, t, u, b, rfl, hv, h1 _ _ _ st1.ex rv, h2, hp1 _ _ _ (Same.refl _) st1 (.bl _)⟩
/-- the answers for a tuple of classes -/
inductive IsaL (K : PySem.W.Frag) (cl : Nat → Addr) : List V → List Value → List (PV → Option Bool) → Prop
  | nil : IsaL K cl [] [] []
  | cons {c : V} {u : Value} {ans : PV → Option Bool} {cs : List V} {us : List Value} {as : List (PV → Option Bool)} : ClsV c u → IsaOk K cl u ans → IsaL K cl cs us as → IsaL K cl (c :: cs) (u :: us) (ans :: as)
theorem IsaL.paired {K : PySem.W.Frag} {cl : Nat → Addr} : ∀ {cs : List V} {us : List Value} {as : List (PV → Option Bool)}, IsaL K cl cs us as → Paired ClsV cs us
  | _, _, _, .nil => .nil
  | _, _, _, .cons h _ hs => .cons h hs.paired
theorem IsaL.any {K : PySem.W.Frag} {cl : Nat → Addr} {x : PV} : ∀ {cs : List V} {us : List Value} {as : List (PV → Option Bool)} {b : Bool} {t : Value}, IsaL K cl cs us as → tyVl cl x = some t → ansAny as x = some b → PySem.W.kitAny K t us = some b
  | _, _, _, b, t, .nil, et, h => by cases h; rfl
  | _, _, _, b, t, .cons (ans := ans) (as := as) h1 h2 hs, et, h => by
    unfold ansAny at h
    cases e : ans x with
    | none => rw [e] at h; cases h
    | some b1 =>
      rw [e] at h
      obtain ⟨t', et', _, k⟩ := h2 x b1 e
      rw [et] at et'
      cases et'
      refine kitAny_cons k (fun q => ?_) fun q => ?_
      · subst q
        exact hs.any et h
      · subst q
        cases h
        rfl
theorem IsaL.ty {K : PySem.W.Frag} {cl : Nat → Addr} {x : PV} {cs : List V} {us : List Value} {as : List (PV → Option Bool)} {b : Bool} (h : IsaL K cl cs us as) (hne : as ≠ []) (ha : ansAny as x = some b) : ∃ t, tyVl cl x = some t ∧ (∀ (G H : Hp) (v : V), Same G H → Rep K cl G v x → TyX K H v t) := by
  cases h with
  | nil => exact absurd rfl hne
  | @cons c u ans cs us as h1 h2 hs =>
    unfold ansAny at ha
    cases e : ans x with
    | none => rw [e] at ha; cases ha
    | some b1 =>
      obtain ⟨t', et', k1, _⟩ := h2 x b1 e
      exact ⟨t', et', k1⟩
/-- several constants as arguments -/
def tCs : List V → TA
  | [] => tNil
  | c :: cs => tCons (tC c) (tCs cs)
theorem tCs_run : ∀ {cs : List V} {σ : L2.St} {H : Hp} {Q : List V → Hp → Prop}, Q cs H → tCs cs σ H Q
  | [], σ, H, Q, h => h
  | c :: cs, σ, H, Q, h => tCs_run (cs := cs) (Q := fun vs H' => Q (c :: vs) H') h
theorem em_isaT {x : Expr} {es : List Expr} {cs : List V} {us : List Value} {as : List (PV → Option Bool)} {m : M PV} {p p2 : Pos} {k : Nat} (h : IsaL X.K cl cs us as) (hm : X.mg "isinstance" = none) (hx : EM X cl W x m) (hc : PA X es (tCs cs)) (hz : cs.length ≤ 1000 := by decide) (hne : as ≠ [] := by exact List.cons_ne_nil _ _) (hg : Gl X "isinstance" := by rfl)
    (he : starEach [x, .Tuple es k p2] X.env = (false, eval x X.env) :: starEach [.Tuple es k p2] X.env := by rfl) (he2 : starEach [.Tuple es k p2] X.env = (false, eval (.Tuple es k p2) X.env) :: starEach [] X.env := by rfl) (hpl : (backTo pos (starEach [.Tuple es k p2] X.env)).any (·.1) = false := by rfl) :
    EM X cl W (.Call (.Name "isinstance" p) [x, .Tuple es k p2] [] pos) (mIsa (ansAny as) m) := by
  obtain ⟨t, pe, d⟩ := hx
  refine ⟨_, pe_callB call_isiT hg hm PyProof.Rows.boot_isinstance (pa_cons pe (pa_cons (pe_tup hc) pa_nil he2) he) (by decide) (by decide) he hpl, fun F G H σ S rr Q st hm hp => ?_⟩
  refine d.step (R2 := RV X.K cl) st hm hp fun y S1 v G1 H1 hm1 s1 st1 rv hp1 => ?_
  obtain ⟨z, ez, rfl⟩ := lift_eq hm1
  cases ea : ansAny as y with
  | none => rw [ea] at ez; cases ez
  | some b =>
    rw [ea] at ez
    cases ez
    refine tCs_run ⟨Nat.le_trans hz (by decide), fun p hn => ?_⟩
    obtain ⟨t, et, ht⟩ := h.ty hne ea
    refine ⟨v, p, cs, t, us, b, rfl, upd_same, h.paired, (ht _ _ _ (st1.ex.trans (same_new hn)) rv), h.any et ea, ?_⟩
    exact hp1 _ _ _ (same_new (st1.free hn)) (st1.alloc hn) (.bl _)
end
end Kp
set_option Elab.async false
set_option linter.all false
set_option maxRecDepth 100000
set_option maxHeartbeats 2000000
namespace Kp
open PySem PyProof.Rows L2

/-! ### exceptions of own classes whose __init__ calls an own base's (which is ValueError's) -/
structure BaseX (K : PySem.W.Frag) (B : Addr) : Prop where
  rd : PySem.W.readsIn K B (.type "type") = true
  fc : PySem.W.findCls K (.ref B) (.type "type") "__init__" = some (.val (.builtin "ValueError.__init__"))
  ga : PySem.W.specialIn K (.ref B) "__getattribute__" = some (some (.builtin "type.__getattribute__"))
section
variable {X : Cx} {cl : Nat → Addr} {W : WX} {pos : Pos}
theorem pe_binit {b : Str} {B : Addr} {e : Expr} {es : List Expr} {ta : TA} {p1 p2 : Pos} {pl : Sem Bool} (f : BaseX X.K B) (hg : Gl X b) (hm : X.mg b = some (.ref B)) (ha : PA X (e :: es) ta) (hdb : (b == ("__debug__" : Str)) = false := by decide)
    (hc : eval (.Call (.Attribute (.Name b p1) "__init__" p2) (e :: es) [] pos) X.env = (do
      let ov ← eval (.Name b p1) X.env
      standAt p2.atName
      let (f, first) ← holding [ov] (getMethod ov "__init__" pl)
      callWith pos f first (backTo pos (starEach (e :: es) X.env)) (backToKw pos (keywordEach [] X.env))) := by rfl)
    (he : starEach (e :: es) X.env = (false, eval e X.env) :: starEach es X.env := by rfl) (hpl : (backTo pos (starEach es X.env)).any (·.1) = false := by rfl) :
    PE X (.Call (.Attribute (.Name b p1) "__init__" p2) (e :: es) [] pos) (tVeI X.K ta) := by
  refine ⟨fun pins s σ H Q I h => ?_⟩
  refine PySem.W.methodCall_KW (ld_glob I hg hm ?_ hdb) hc
  refine PySem.W.method_cls I.kIn f.ga (PySem.W.cls_value I.kIn f.rd f.fc (by decide +kernel) ?_)
  show wpAny _ _ (callWith pos (Value.builtin "ValueError.__init__") [] (backTo pos (starEach (e :: es) X.env)) []) _ _ _
  refine PyProof.Rows.callWith_method1 (thn (ha.run pos pins _ σ H _ (I.tok _) h) fun us s1 ⟨vs, H1, I1, r1, a, C, ws, ev, hl, T, ea, q⟩ => ?_) he hpl
  subst ev
  cases r1 with
  | @cons _ u0 _ ur ra rr =>
    obtain rfl : u0 = Value.ref a := ra
    exact oinit_ok T I1 ea (by rw [← Paired.length rr, sizeLine_eq]; omega) fun s' J => ⟨.non, H1, J, rfl, q⟩

/-- the fields that __init__ leaves: field, parameter's slot, in the body's order -/
def fldsOf (fl : List (Str × Nat)) (vs : List V) : List (Str × V) := fl.foldl (fun acc p => (p.1, vs.getD p.2 .non) :: acc) []
def spX (C : Addr) (n : Nat) (fl : List (Str × Nat)) : Sp := fun vs H Q _ => vs.length = n ∧ ∃ (a : Addr) (ws : List V), vs = .ref a :: ws ∧ H a = some (exo a C none) ∧
  ∀ dx, H dx = none → dx ≠ a → Q .non (upd (upd H dx (exd dx (fldsOf fl vs))) a (exo a C (some dx)))
theorem upd_swap {H : Hp} {a b : Addr} {x y z : HO} (h : a ≠ b) : upd (upd (upd H a x) b y) a z = upd (upd H a z) b y := by
  funext c
  by_cases e1 : c = a
  · subst e1
    rw [upd_same, upd_ne h, upd_same]
  · rw [upd_ne e1]
    by_cases e2 : c = b
    · subst e2
      rw [upd_same, upd_same]
    · rw [upd_ne e2, upd_ne e2, upd_ne e1, upd_ne e1]
/-- the body's rows behind the first one: self.f = x, .. -/
def tOsts (K : PySem.W.Frag) : List (Str × Nat) → TS
  | [] => fun D σ H => D.nx σ H
  | [p] => tOst K p.1 (tVar 0) (tVar p.2)
  | p :: ps => tSeq (tOst K p.1 (tVar 0) (tVar p.2)) (tOsts K ps)
theorem osts_run {K : PySem.W.Frag} {C a dx : Addr} {σ : L2.St} {vs : List V} {D : Ends} (T : OexC K C) (h0 : σ[0]? = some (some (.ref a))) (hv : ∀ (j : Nat) (v : V), vs[j]? = some v → σ[j]? = some (some v)) (hne : dx ≠ a) : ∀ {fl : List (Str × Nat)} {fs : List (Str × V)} {H : Hp},
    (∀ p ∈ fl, p.2 < vs.length ∧ PySem.W.findIn K (.ref C) p.1 = some none) → fs.length + fl.length ≤ 900 → H dx = none → D.nx σ (upd (upd H dx (exd dx (fl.foldl (fun acc p => (p.1, vs.getD p.2 .non) :: acc) fs))) a (exo a C (some dx))) → tOsts K fl D σ (upd (upd H dx (exd dx fs)) a (exo a C (some dx)))
  | [], fs, H, _, _, _, k => k
  | p :: ps, fs, H, hf, hl, hd, k => by
    obtain ⟨h1, h2⟩ := hf p List.mem_cons_self
    have ev : vs[p.2]? = some (vs.getD p.2 .non) := by
      rw [List.getD_eq_getElem?_getD, List.getElem?_eq_getElem h1]
      rfl
    have step : ∀ {D' : Ends}, D'.nx σ (upd (upd H dx (exd dx ((p.1, vs.getD p.2 .non) :: fs))) a (exo a C (some dx))) → tOst K p.1 (tVar 0) (tVar p.2) D' σ (upd (upd H dx (exd dx fs)) a (exo a C (some dx))) := fun {D'} q => by
      refine ⟨_, hv _ _ ev, _, h0, a, C, rfl, T, h2, .inr ⟨dx, fs, upd_same, by rw [upd_ne hne, upd_same], by omega, ?_⟩⟩
      rw [upd_swap hne]
      exact q
    have hl' : ((p.1, vs.getD p.2 .non) :: fs).length + ps.length ≤ 900 := by
      simp only [List.length_cons] at hl ⊢
      omega
    cases ps with
    | nil => exact step k
    | cons p2 ps => exact step (osts_run T h0 hv hne (fun q hq => hf q (List.mem_cons_of_mem _ hq)) hl' hd k)
/-- such a class's __init__ keeps its promise -/
theorem fnX {P : Program} {w : World} {K : PySem.W.Frag} {mg : Str → Option Value} {base : Heap} {x qual : Str} {st : Stmt} {f : Addr} {fd : FuncData} {N ps : List Str} {k : Nat} {C : Addr} {p0 : Str × Nat} {fl : List (Str × Nat)} {ta : TA} (F : Fun K x qual st f fd) (S : FnScope N ps (defScope st)) (T : OexC K C)
    (hfl : ∀ p ∈ p0 :: fl, p.2 < ps.length ∧ PySem.W.findIn K (.ref C) p.1 = some none) (hlen : fl.length < 100)
    (hb : ∀ (cdv : Value) (A : Around) (outer : List Env) (s : Shared) (H : Hp) (E : XK), Room k (A.deeper (envOfC qual (defScope st) s.heap.objs.size f cdv)) →
      PSs (cxOf (L2N.CX P w) P w K mg base N qual (defScope st) f cdv A outer s H E) (defBody st) (tSeq (tDrop (tVeI K (tCons (tVar 0) ta))) (tOsts K (p0 :: fl))))
    (hta : ∀ (σ : L2.St) (H : Hp) (Q : List V → Hp → Prop), (∀ ws : List V, ws.length ≤ 10 → Q ws H) → ta σ H Q) :
    FnOk P w K mg base (L2N.CX P w) (k + 1) f fd ps (spX C ps.length (p0 :: fl)) := by
  obtain ⟨oc, od, kV, doc, pm, an, cdv, ct, osl, rfl, lk, hcd⟩ := F.ex
  have hps : ps.length ≤ N.length := by
    have := congrArg List.length S.pre
    rw [List.length_take] at this
    omega
  refine fn_of lk hcd S (fun vs H Q E h => h.1) fun A outer s H vs Q E hr hsp => ?_
  obtain ⟨hl, a, ws, rfl, ha, hq⟩ := hsp
  refine ⟨_, hb cdv A outer s H E hr, ?_⟩
  have hv : ∀ (j : Nat) (v : V), (V.ref a :: ws)[j]? = some v → (L2.start N (V.ref a :: ws))[j]? = some (some v) := fun j v e => start_get e
  have h0 := hv 0 (.ref a) rfl
  refine ⟨_, h0, hta _ _ _ fun us hu => ⟨a, C, us, rfl, by omega, T, ha, ?_⟩⟩
  obtain ⟨h1, h2⟩ := hfl p0 List.mem_cons_self
  have ev : (V.ref a :: ws)[p0.2]? = some ((V.ref a :: ws).getD p0.2 .non) := by
    rw [List.getD_eq_getElem?_getD, List.getElem?_eq_getElem (by rw [hl]; exact h1)]
    rfl
  have first : ∀ {D' : Ends}, (∀ dx, H dx = none → dx ≠ a → D'.nx (L2.start N (V.ref a :: ws)) (upd (upd H dx (exd dx [(p0.1, (V.ref a :: ws).getD p0.2 .non)])) a (exo a C (some dx)))) → tOst K p0.1 (tVar 0) (tVar p0.2) D' (L2.start N (V.ref a :: ws)) H := fun {D'} q =>
    ⟨_, hv _ _ ev, _, h0, a, C, rfl, T, h2, .inl ⟨ha, q⟩⟩
  cases fl with
  | nil => exact first fun dx h3 h4 => hq dx h3 h4
  | cons p1 fl =>
    refine first fun dx h3 h4 => ?_
    refine osts_run T h0 hv h4 (fun q hq' => ?_) ?_ h3 (hq dx h3 h4)
    · obtain ⟨g1, g2⟩ := hfl q (List.mem_cons_of_mem _ hq')
      exact ⟨by rw [hl]; exact g1, g2⟩
    · have e1 : [(p0.1, (V.ref a :: ws).getD p0.2 .non)].length = 1 := rfl
      rw [e1]
      omega
/-- C(e, ..), as an exception -/
theorem pmkN {x : Str} {e : Expr} {es : List Expr} {ta : TA} {p : Pos} {C fI : Addr} {k : Nat} {fd : FuncData} {ps : List Str} {sp : Sp} (T : OexC X.K C) (iC : PySem.W.findIn X.K (.ref C) "__init__" = some (some (.ref fI))) (tI : PySem.W.typeIn X.K (.ref fI) = some (.type "function"))
    (F1 : FnOk X.prog X.w X.K X.mg X.base (L2N.CX X.prog X.w) k fI fd ps sp) (hr : Room (k + 1) X.A) (hb : Binds X.K fd ps []) (tk : L2N.Takes X W) (hg : Gl X x) (hm : X.mg x = some (.ref C)) (ha : PA X (e :: es) ta)
    (hdb : (x == ("__debug__" : Str)) = false := by decide) (he : starEach (e :: es) X.env = (false, eval e X.env) :: starEach es X.env := by rfl) (hpl : (backTo pos (starEach es X.env)).any (·.1) = false := by rfl) :
    L2N.PMk X (.Call (.Name x p) (e :: es) [] pos) (tMkO C sp [] ta) := by
  intro pins s σ H Q I h
  obtain ⟨nm, q0, N0, bs, bm, sn, sub, ab, col, dd, k0, k1, k2, k3, k5, hC, hbm⟩ := T.cls
  refine wpAny_Call_Name_kw (ld_glob I hg hm ?_ hdb)
  refine PySem.W.callWith_K (h₀ := X.base) I.ok.mod.kin T.kC (thn (ha.run pos pins s σ H _ I h) fun us s1 ⟨vs, H1, I1, r1, hz, q1⟩ => ⟨I1.kIn, ?_⟩) he hpl
  show wpAny _ _ (call (.ref C) us) _ _ _
  obtain ⟨hp, g, dr, tk', os⟩ := s1
  let e1 : Addr := hp.objs.size + 1
  have hsz : hp.objs.size ≤ e1 := Nat.le_succ _
  have hn : H1 e1 = none := I1.hok.fresh hsz
  have hq := q1 e1 hn
  rw [List.append_nil] at hq
  let hp2 : Heap := (hp.push (PySem.W.kdv_tup us)).push (PySem.HandSPX.excO C hp.objs.size)
  have kk : ∀ b o, hp.get? b = some o → hp2.get? b = some o := fun b o q => Heap.get?_push_of_some _ (Heap.get?_push_of_some _ q)
  have hget : hp2.get? e1 = some (PySem.HandSPX.excO C hp.objs.size) := by show ((hp.push (PySem.W.kdv_tup us)).push (PySem.HandSPX.excO C hp.objs.size)).get? (hp.objs.size + 1) = _; heap_get
  have I2 : Inv X pins σ (upd H1 e1 (exo e1 C none)) ⟨hp2, g, dr, tk', os⟩ := I1.laid (t' := tk') (a := e1) (o := exo e1 C none) (h' := hp2) kk hsz (exo_ok hget)
  have r2 : Vals (V.ref e1 :: vs) (Value.ref e1 :: us) := .cons rfl r1
  have hl : (Value.ref e1 :: us).length = ps.length := by
    have q := r2.length
    rw [F1.len _ _ _ _ hq] at q
    exact q.symm
  have b2 := hb _ (Value.ref e1 :: us) I2.kIn (by rw [List.append_nil]; exact hl)
  rw [List.append_nil] at b2
  refine wpAny_call (PySem.HandSPX.call_own F.excBase_ValueError (fun Y => PySem.HandSPX.refsVE_contains Y bm hbm) (I1.kIn _ _ hC) (PySem.W.looks_findIn I1.kIn iC) (fun self => PySem.W.bind_fn I1.kIn self tI) (by rw [← Paired.length r1, sizeLine_eq]; omega)
    (codeAny_mono (F1.run _ X.stack _ _ ⟨Value.ref e1 :: us, []⟩ (Value.ref e1 :: us) _ _ (fun _ _ _ => False) (hr.make C us []) (I2.env0.make C us []) b2 r2 hq) fun r s' hq' => ?_))
  cases r with
  | error er =>
    obtain ⟨_, _, _, _, _, _, _, _, _, _, _, _, no⟩ := hq'
    exact no.elim
  | ok fl =>
    cases fl with
    | ret u =>
      obtain ⟨v, H2, os2, bare2, un2, hok2, rv, ev, d, fs, ea, ed, hd1, q2⟩ := hq'
      subst ev
      obtain ⟨h2, g2, d2, t2, os'⟩ := s'
      obtain ⟨t0, G, J, kG, ge, hoe, na⟩ := mk_end0 (d2 := d2) (t2 := t2) I1 hsz kk un2 hok2 os2 bare2 ea ed hd1
      exact ⟨rv, e1, _, _, ⟨G, g2, d2, t2, os'⟩, _, .ref C, some d, rfl, J, kG, ge, hoe, ⟨rfl, rfl, fun vs hv => by cases hv; rfl⟩, rfl, rfl, na, rfl, bare2, raises_own T.exC T.tyC, q2⟩
    | next => exact False.elim hq'
    | brk => exact False.elim hq'
    | cont => exact False.elim hq'
end

/-! ### raise C(e, ..) -/
/-- the fields: field, argument's place (0 the first argument) -/
def fldsP (fl : List (Str × Nat)) (xs : List PV) : List (Str × PV) := fl.foldl (fun acc p => (p.1, xs.getD p.2 .non) :: acc) []
def mRaise (c : Nat) (fl : List (Str × Nat)) (ms : List (M PV)) : M Fl := bnd (mArgs ms) fun xs => fun S => some (.ex c (fldsP fl xs) S)
theorem flds_rep {K : PySem.W.Frag} {cl : Nat → Addr} {H : Hp} {v0 : V} {vs : List V} {xs : List PV} (r : RepL K cl H vs xs) : ∀ {fl : List (Str × Nat)} {as : List (Str × V)} {bs : List (Str × PV)}, (∀ p ∈ fl, p.2 < xs.length) → RepF K cl H as bs →
    RepF K cl H ((fl.map fun p => (p.1, p.2 + 1)).foldl (fun acc p => (p.1, (v0 :: vs).getD p.2 .non) :: acc) as) (fl.foldl (fun acc p => (p.1, xs.getD p.2 .non) :: acc) bs)
  | [], _, _, _, h => h
  | p :: fl, as, bs, hf, h => by
    show RepF K cl H ((fl.map fun p => (p.1, p.2 + 1)).foldl (fun acc p => (p.1, (v0 :: vs).getD p.2 .non) :: acc) ((p.1, (v0 :: vs).getD (p.2 + 1) .non) :: as)) (fl.foldl (fun acc p => (p.1, xs.getD p.2 .non) :: acc) ((p.1, xs.getD p.2 .non) :: bs))
    refine flds_rep (fl := fl) r (fun q hq => hf q (List.mem_cons_of_mem _ hq)) (RepF.cons ?_ h)
    have hlt := hf p List.mem_cons_self
    have ex : xs[p.2]? = some (xs.getD p.2 .non) := by
      rw [List.getD_eq_getElem?_getD, List.getElem?_eq_getElem hlt]
      rfl
    obtain ⟨v, ev, rv⟩ := r.get ex
    show Rep K cl H ((v0 :: vs).getD (p.2 + 1) .non) (xs.getD p.2 .non)
    rw [List.getD_cons_succ, List.getD_eq_getElem?_getD, ev]
    exact rv
section
variable {X : Cx} {cl : Nat → Addr} {W : WX} {pos : Pos}
theorem sm_raise {x : Str} {e : Expr} {es : List Expr} {p p2 : Pos} {c : Nat} {fI : Addr} {k : Nat} {fd : FuncData} {ps : List Str} {fl : List (Str × Nat)} {ms : List (M PV)} (hcm : X.calm = true) (tk : L2N.Takes X W) (T : OexC X.K (cl c)) (iC : PySem.W.findIn X.K (.ref (cl c)) "__init__" = some (some (.ref fI))) (tI : PySem.W.typeIn X.K (.ref fI) = some (.type "function"))
    (F1 : FnOk X.prog X.w X.K X.mg X.base (L2N.CX X.prog X.w) k fI fd ps (spX (cl c) ps.length (fl.map fun p => (p.1, p.2 + 1)))) (hr : Room (k + 1) X.A) (hb : Binds X.K fd ps []) (hm : X.mg x = some (.ref (cl c))) (ha : AM X cl W (e :: es) (mArgs ms)) (hl : ms.length + 1 = ps.length := by rfl) (hz : ms.length ≤ 10 := by decide) (hfl : ∀ p ∈ fl, p.2 < ms.length := by decide)
    (hg : Gl X x := by rfl) (hdb : (x == ("__debug__" : Str)) = false := by decide) (he : starEach (e :: es) X.env = (false, eval e X.env) :: starEach es X.env := by rfl) (hpl : (backTo p2 (starEach es X.env)).any (·.1) = false := by rfl) :
    SM X cl W (.Raise (some (.Call (.Name x p) (e :: es) [] p2)) none pos) (mRaise c fl ms) := by
  obtain ⟨t, pa, d⟩ := ha
  refine ⟨_, L2N.ps_raise hcm tk (pmkN T iC tI F1 hr hb tk hg hm pa hdb he hpl), fun F G H σ S r D st hm1 hp => ?_⟩
  unfold mRaise at hm1
  rcases bnd_some hm1 with ⟨xs, S1, e1, e2⟩ | ⟨c', fs, S1, e1, e2⟩
  · cases e2
    refine d F G H σ S _ _ st e1 fun vs G1 H1 s1 st1 rv => ?_
    have hlv : vs.length = ms.length := by rw [rv.length, mArgs_len e1]
    refine ⟨by omega, fun a hna => ?_⟩
    rw [List.append_nil]
    refine ⟨by rw [List.length_cons, hlv]; exact hl, a, vs, rfl, upd_same, fun dx hdx hne => ?_⟩
    have hdx1 : H1 dx = none := by
      rw [upd_ne hne] at hdx
      exact hdx
    refine ⟨rfl, dx, fldsOf (fl.map fun p => (p.1, p.2 + 1)) (.ref a :: vs), upd_same, by rw [upd_ne hne, upd_same], hdx1, ?_⟩
    have eH : upd (del (upd (upd (upd H1 a (exo a (cl c) none)) dx (exd dx (fldsOf (fl.map fun p => (p.1, p.2 + 1)) (.ref a :: vs)))) a (exo a (cl c) (some dx))) a) dx (.xd (fldsOf (fl.map fun p => (p.1, p.2 + 1)) (.ref a :: vs))) = upd H1 dx (.xd (fldsOf (fl.map fun p => (p.1, p.2 + 1)) (.ref a :: vs))) := by
      funext b
      by_cases e1 : b = dx
      · rw [e1, upd_same, upd_same]
      · rw [upd_ne e1, upd_ne e1]
        by_cases e2 : b = a
        · rw [e2, del_same, hna]
        · rw [del_ne e2, upd_ne e2, upd_ne e1, upd_ne e2]
    rw [eH]
    exact hp dx _ σ G1 _ s1 (st1.allocO hdx1) ⟨upd_same, st1.free0 hdx1, st1.rfree hdx1⟩ (flds_rep (v0 := .ref a) rv (fun p hp' => by rw [mArgs_len e1]; exact hfl p hp') .nil)
  · subst e2
    refine d F G H σ S _ _ st e1 fun dd gs G' H' s k' a b => ?_
    exact hp dd gs σ G' H' s k' a b

/-! ### self.f = e -/
def putFP (f : Str) (v : PV) : List (Str × PV) → List (Str × PV)
  | [] => [(f, v)]
  | (g, x) :: r => if g = f then (g, v) :: r else (g, x) :: putFP f v r
theorem repF_put {K : PySem.W.Frag} {H : Hp} {f : Str} {v : V} {x : PV} (rx : Rep K cl H v x) : ∀ {gs : List (Str × V)} {fs : List (Str × PV)}, RepF K cl H gs fs → RepF K cl H (putF f v gs) (putFP f x fs)
  | _, _, .nil => .cons rx .nil
  | _, _, .cons (f := g) h hs => by
    unfold putF putFP
    split
    · exact .cons rx hs
    · exact .cons h (repF_put rx hs)
def pSetF (c : Nat) (f : Str) (v : PV) : PV → Option PV
  | .obj d fs => if d = c ∧ fs.length < 100 then some (.obj d (putFP f v fs)) else none
  | _ => none
def mSetF (i c : Nat) (f : Str) (me : M PV) : M Fl := bnd me fun v => bnd (updO i (pSetF c f v)) fun _ => ret .nx
theorem sm_setF {o e : Expr} {i c : Nat} {f : Str} {me : M PV} {pos' : Pos} (hc : Cls X.K (cl c)) (hn : NoAttr X.K (cl c) f) (ho : PE X o (tVar i)) (he : EM X cl W e me) (hs : swapsWith e (some (.Attribute o f pos')) pos.line X.env = pure false := by rfl) :
    SM X cl W (.Assign [.Attribute o f pos'] e pos) (mSetF i c f me) := by
  obtain ⟨te, pe, de⟩ := he
  refine ⟨_, ps_fld ho pe hs, fun F G H σ S r D st hm hp => ?_⟩
  refine de.stepS st hm hp fun v S1 wv G1 H1 hm1 s1 st1 rv hp1 => ?_
  rcases bnd_some hm1 with ⟨u, S3, e3, e4⟩ | ⟨c', fs, S3, e3, _⟩
  · cases e4
    obtain ⟨a, x, x', S', e5, ea, ga, q, ef, fin⟩ := updO_use st1 e3
    cases e5
    refine ⟨_, ea, ?_⟩
    unfold pSetF at ef
    cases x <;> try (cases ef; done)
    dsimp only at ef
    split at ef <;> try (cases ef; done)
    rename_i cc
    obtain ⟨rfl, hlen⟩ := cc
    cases ef
    obtain ⟨dx, gs, eh, rf⟩ := q
    exact ⟨a, _, dx, gs, rfl, eh, hc, hn, by rw [rf.length]; omega, hp1 σ G1 _ (Same.refl _) (fin _ ⟨dx, _, upd_same, repF_put rv rf⟩)⟩
  · obtain ⟨a, x, x', S', e5, _⟩ := updO_use st1 e3
    cases e5
/-- x.f, x a name -/
def mFldV (i c : Nat) (f : Str) : M PV := fun S => match pk i S with
  | some x => match pFld c f x with
    | some z => some (.ok z S)
    | none => none
  | none => none
theorem em_fldV {e : Expr} {i c : Nat} {f : Str} (he : PE X e (tVar i)) (hc : Cls X.K (cl c)) (hn : NoAttr X.K (cl c) f) (hb : attributeBase e f X.env (eval e X.env) = eval e X.env := by rfl) : EM X cl W (.Attribute e f pos) (mFldV i c f) := by
  refine ⟨_, pe_fld he hb, fun F G H σ S rr Q st hm hp => ?_⟩
  unfold mFldV at hm
  split at hm <;> try (cases hm; done)
  rename_i x e1
  split at hm <;> try (cases hm; done)
  rename_i z ez
  cases hm
  unfold pFld at ez
  cases x <;> try (cases ez; done)
  dsimp only at ez
  split at ez <;> try (cases ez; done)
  rename_i q
  subst q
  have own : ∀ {a : Addr}, σ[i]? = some (some (.ref a)) → OwnAt X.K cl G H a (.obj _ _) → tFld X.K (tVar i) f σ H Q := fun {a} ea q => by
    obtain ⟨dx, gs, eh, rf⟩ := q
    obtain ⟨w, ew, rw'⟩ := rf.lookup ez
    exact ⟨_, ea, _, _, _, _, w, rfl, eh, hc, hn, ew, hp _ _ _ (Same.refl _) st rw'⟩
  unfold pk at e1
  split at e1
  · rename_i y' e
    cases e1
    obtain ⟨v', ev', rv⟩ := st.val i _ e
    cases rv with
    | obj hs hr =>
      obtain ⟨w, ew, rw'⟩ := hr.lookup ez
      exact ⟨_, ev', _, _, _, _, w, rfl, st.ex _ _ hs, hc, hn, ew, hp _ _ _ (Same.refl _) st rw'⟩
  · rename_i y' e
    cases e1
    obtain ⟨a, ea, ga, h0, q⟩ := st.own i _ e
    exact own ea q
  · rename_i y' e
    cases e1
    obtain ⟨a, ea, ga, h0, q⟩ := st.inn i _ e
    exact own ea q
  · cases e1
end
end Kp
set_option Elab.async false
set_option linter.all false
set_option maxRecDepth 100000
set_option maxHeartbeats 2000000
namespace Kp
open PySem PyProof.Rows L2

/-! ### one reading for all the contexts of a block -/
section
variable {X : Cx} {cl : Nat → Addr} {scope : Scope}
theorem takes_W0 {X : Cx} : L2N.Takes X W0 := fun u s' ⟨a, B, sI, pins, σ, H, cls, d, e, I, nb, up, sky, na, os, ag, w⟩ => w.elim
theorem blk_em {elt : Expr} {me : M PV} (h : ∀ (s : Shared) (H : Hp) (C : Addr) (cl' : List (Str × Addr)) (fp : List Addr), EM (X.blk s H scope (compEnvC scope cl' C X.env) fp) cl W0 elt me) :
    ∃ te, (∀ (s : Shared) (H : Hp) (C : Addr) (cl' : List (Str × Addr)) (fp : List Addr), PE (X.blk s H scope (compEnvC scope cl' C X.env) fp) elt te) ∧ Does X.K cl W0 (RV X.K cl) te me := by
  refine ⟨fun σ H Q => ∀ (s : Shared) (H0 : Hp) (C : Addr) (cl' : List (Str × Addr)) (fp : List Addr), Classical.choose (h s H0 C cl' fp) σ H Q, fun s H0 C cl' fp => ?_, fun F G H σ S r Q st hm hp s H0 C cl' fp => ?_⟩
  · exact ⟨fun pins s2 σ H Q I q => (Classical.choose_spec (h s H0 C cl' fp)).1.run pins s2 σ H Q I (q s H0 C cl' fp)⟩
  · exact (Classical.choose_spec (h s H0 C cl' fp)).2 F G H σ S r Q st hm hp
theorem blk_ts {ifs : List Expr} {mt : M Bool} (h : ∀ (s : Shared) (H : Hp) (C : Addr) (cl' : List (Str × Addr)) (fp : List Addr), TsM (X.blk s H scope (compEnvC scope cl' C X.env) fp) cl W0 ifs mt) :
    ∃ tt, (∀ (s : Shared) (H : Hp) (C : Addr) (cl' : List (Str × Addr)) (fp : List Addr), PTs (X.blk s H scope (compEnvC scope cl' C X.env) fp) ifs tt) ∧ Does X.K cl W0 RB tt mt := by
  refine ⟨fun σ H Q => ∀ (s : Shared) (H0 : Hp) (C : Addr) (cl' : List (Str × Addr)) (fp : List Addr), Classical.choose (h s H0 C cl' fp) σ H Q, fun s H0 C cl' fp => ?_, fun F G H σ S r Q st hm hp s H0 C cl' fp => ?_⟩
  · exact ⟨fun pins s2 σ H Q I q => (Classical.choose_spec (h s H0 C cl' fp)).1.run pins s2 σ H Q I (q s H0 C cl' fp)⟩
  · exact (Classical.choose_spec (h s H0 C cl' fp)).2 F G H σ S r Q st hm hp
theorem blk_tg {tg : Expr} {t : TG} {g : PV → Sto → Option Sto} {vs : List Nat} (h : ∀ (s : Shared) (H : Hp) (C : Addr) (cl' : List (Str × Addr)) (fp : List Addr), PG (X.blk s H scope (compEnvC scope cl' C X.env) fp) tg t) (d : DoesG X.K cl t g) (gi : gInA vs t) :
    ∃ t, (∀ (s : Shared) (H : Hp) (C : Addr) (cl' : List (Str × Addr)) (fp : List Addr), PG (X.blk s H scope (compEnvC scope cl' C X.env) fp) tg t) ∧ DoesG X.K cl t g ∧ gIn vs t := ⟨t, h, d, gin_of gi⟩
end
section
variable {X : Cx} {cl : Nat → Addr} {W : WX} {pos : Pos}
theorem em_v (i : Nat) {x : Str} (hN : X.N[i]? = some x := by rfl) (hv : Vis X.env.scope x := by first | exact Or.inl rfl | exact Or.inr (Or.inl rfl) | exact Or.inr (Or.inr rfl)) (hd : (x == ("__debug__" : Str)) = false := by decide)
    (hcd : (x == ("__classdict__" : Str)) = false := by decide) : EM X cl W (.Name x pos) (mVar i) := em_pv (pe_var hN hv hd hcd)
/-- truth of a slot's content, looked at alone -/
def mTruV (i : Nat) : M Bool := fun S => match pk i S with
  | some x => match truP x with
    | some b => some (.ok b S)
    | none => none
  | none => none
theorem tm_truV {e : Expr} {i : Nat} (h : PE X e (tVar i)) (he : ∀ whole, isTrue e X.env whole = (do let v ← whole; standAt e.pos; holding [v] (truthy v)) := by intro _; rfl) : TM X cl W e (mTruV i) := by
  refine ⟨_, pt_truth h he, fun F G H σ S rr Q st hm hp => ?_⟩
  unfold mTruV at hm
  split at hm <;> try (cases hm; done)
  rename_i x e1
  split at hm <;> try (cases hm; done)
  rename_i b eb
  cases hm
  obtain ⟨v, G', ev, s1, s2, rv⟩ := pk_view st e1
  exact ⟨v, ev, b, tru_rep (rv.mono s2) eb, hp _ _ _ (Same.refl _) st rfl⟩
end
end Kp
set_option Elab.async false
set_option linter.all false
set_option maxRecDepth 100000
set_option maxHeartbeats 2000000
namespace Kp
open PySem PyProof.Rows L2

theorem hu64 {k : Nat} {A : Around} (r : Room k A) : A.units + 64 < cLine := by have := r.un; omega
/-! ### defs that give a fresh object to be changed -/
def spO (K : PySem.W.Frag) (cl : Nat → Addr) (n : Nat) (f : List PV → Option RO) : Sp := fun vs H Q E => vs.length = n ∧ ∃ (G : Hp) (xs : List PV) (r : RO), Same G H ∧ RepL K cl G vs xs ∧ f xs = some r ∧
  match r with
  | .ret y => ∀ (a : Addr) (G' H' : Hp), Grown G H G' H' → G' a = none → H a = none → OwnAt K cl G' H' a y → Q (.ref a) H'
  | .exc c fs => ∀ (d : Addr) (gs : List (Str × V)) (G' H' : Hp), Grown G H G' H' → (H' d = some (.xd gs) ∧ H d = none) → RepF K cl G' gs fs → E (.ref (cl c)) (some d) H'
def endV : Option (Rs PV) → Option RO
  | some (.ok y _) => some (.ret y)
  | some (.ex c fs _) => some (.exc c fs)
  | none => none
def runO (N : Nat) (m : M PV) (xs : List PV) : Option RO := endV (m (stoP N xs))
theorem free0_none {K : PySem.W.Frag} {cl : Nat → Addr} {F : Fr} {G H : Hp} {σ : L2.St} {S : Sto} {a : Addr} (h : F.H0 a = none) : F.H0 a = none := h
section
variable {P : Program} {w : World} {K : PySem.W.Frag} {mg : Str → Option Value} {base : Heap} {cl : Nat → Addr}
theorem fnO {x qual : Str} {st : Stmt} {f : Addr} {fd : FuncData} {N ps : List Str} {k : Nat} {m : M PV} {e : Expr} {pos : Pos} (F : Fun K x qual st f fd) (S : FnScope N ps (defScope st)) (hbody : defBody st = [.Return (some e) pos])
    (hb : ∀ (cdv : Value) (A : Around) (outer : List Env) (s : Shared) (H : Hp) (E : XK), Room k (A.deeper (envOfC qual (defScope st) s.heap.objs.size f cdv)) →
      FM (cxOf (L2N.CX P w) P w K mg base N qual (defScope st) f cdv A outer s H E) cl (fun c d _ H' => E c d H') e m) :
    FnOk P w K mg base (L2N.CX P w) (k + 1) f fd ps (spO K cl ps.length (runO N.length m)) := by
  obtain ⟨oc, od, kV, doc, pm, an, cdv, ct, osl, rfl, lk, hcd⟩ := F.ex
  have hps : ps.length ≤ N.length := by
    have := congrArg List.length S.pre
    rw [List.length_take] at this
    omega
  refine fn_of lk hcd S (fun vs H Q E h => h.1) fun A outer s H vs Q E hr hsp => ?_
  obtain ⟨t, pt, dt⟩ := hb cdv A outer s H E hr
  obtain ⟨hl, G, xs, r, eG, rl, hf, hq⟩ := hsp
  rw [hbody]
  refine ⟨_, pss_one (ps_ret pt), ?_⟩
  have st0 := stOk_startP (N := N) eG rl (by rw [hl]; exact hps)
  unfold runO endV at hf
  have gr : ∀ {G' H' : Hp} {σ' : L2.St} {S' : Sto}, Same G G' → StOk K cl ⟨G, H, fun _ => none, fun _ => none⟩ G' H' σ' S' → Grown G H G' H' := fun {G' H' σ' S'} s k => ⟨s, k.ex, fun a o h => k.frame a o h (fun i z => by cases z), k.gnew⟩
  split at hf
  · rename_i y S' em
    cases hf
    exact dt _ G H _ _ _ _ st0 em fun a G' H' s' k' hg h0 hR hn q => hq a G' H' (gr s' k') hg h0 q
  · rename_i c fs S' em
    cases hf
    exact dt _ G H _ _ _ _ st0 em fun d gs G' H' s' k' a b => hq d gs G' H' (gr s' k') ⟨a.1, a.2.1⟩ b
  · cases hf
/-- nothing is promised -/
theorem fn_none {CX : CXT} {k : Nat} {f : Addr} {fd : FuncData} {ps : List Str} {n : Nat} : FnOk P w K mg base CX k f fd ps (spP K cl n fun _ => none) :=
  ⟨(fun vs H Q E h => by obtain ⟨_, _, _, _, _, _, z, _⟩ := h; cases z), (fun A outer s H args us vs Q E hr he hb hv h => by obtain ⟨_, _, _, _, _, _, z, _⟩ := h; cases z)⟩
end
section
variable {X : Cx} {cl : Nat → Addr} {W : WX} {pos : Pos}
theorem fm_call {x : Str} {k : Nat} {f : Addr} {fd : FuncData} {ps : List Str} {n : Nat} {g : List PV → Option RO} {p : Pos} {e : Expr} {es : List Expr} {ms : List (M PV)} (tk : L2N.Takes X W) (F : FnOk X.prog X.w X.K X.mg X.base (L2N.CX X.prog X.w) k f fd ps (spO X.K cl n g)) (hr : Room k X.A) (hm : X.mg x = some (.ref f)) (hk : PySem.W.keepIn X.K (.ref f) = true)
    (hb : Binds X.K fd ps []) (ha : AM X cl W (e :: es) (mArgs ms)) (hl : ms.length = n := by rfl) (hg : Gl X x := by rfl) (hdb : (x == ("__debug__" : Str)) = false := by decide) (he : starEach (e :: es) X.env = (false, eval e X.env) :: starEach es X.env := by rfl) (hpl : (backTo pos (starEach es X.env)).any (·.1) = false := by rfl) :
    FM X cl W (.Call (.Name x p) (e :: es) [] pos) (mCall g ms) := by
  obtain ⟨t, pa, d⟩ := ha
  refine ⟨_, pe_callS (E := WE W) F hr hg hm hk hb (fun σ => L2N.passAt tk σ) pa hdb he hpl, fun F G H σ S rr Q st hm hp => ?_⟩
  refine d.stepF st hm hp fun y S1 v G1 H1 e1 hm1 s1 st1 rv hp1 => ?_
  refine ⟨by rw [rv.length, mArgs_len e1]; exact hl, G1, y, ?_⟩
  cases e : g y with
  | none => rw [e] at hm1; cases hm1
  | some ro =>
    rw [e] at hm1
    refine ⟨ro, st1.ex, rv, rfl, ?_⟩
    cases ro with
    | ret z =>
      cases hm1
      exact fun a G' H' g hg h0 q => hp1 a G' H' g.g (st1.grown g) hg (st1.free0 h0) (st1.rfree h0) (st1.newSlot h0) q
    | exc c fs =>
      cases hm1
      exact fun d gs G' H' g a b => hp1 d gs G' H' g.g (st1.grown g) ⟨a.1, st1.free0 a.2, st1.rfree a.2⟩ b
end
end Kp
set_option Elab.async false
set_option linter.all false
set_option maxRecDepth 100000
set_option maxHeartbeats 2000000
namespace Kp
open PySem PyProof.Rows L2

/-! ### calls that raise nothing, by operators and built-in functions -/
abbrev EN : XK := fun _ _ _ => False
theorem spP_quiet {K : PySem.W.Frag} {cl : Nat → Addr} {F : Fr} {G H : Hp} {σ : L2.St} {S : Sto} {n : Nat} {f : List PV → Option RO} {vs : List V} {xs : List PV} {y : PV} {Q : VK} (st : StOk K cl F G H σ S) (rl : RepL K cl G vs xs) (hl : vs.length = n) (hf : f xs = some (.ret y))
    (k : ∀ (v : V) (G' H' : Hp), Grown G H G' H' → Rep K cl G' v y → Q v H') : spP K cl n f vs H Q EN :=
  ⟨hl, G, xs, .ret y, st.ex, rl, hf, fun v G' H' g r => k v G' H' g r⟩
theorem spP_quiet' {K : PySem.W.Frag} {cl : Nat → Addr} {G H : Hp} {n : Nat} {f : List PV → Option RO} {vs : List V} {xs : List PV} {y : PV} {Q : VK} (st : Same G H) (rl : RepL K cl G vs xs) (hl : vs.length = n) (hf : f xs = some (.ret y))
    (k : ∀ (v : V) (G' H' : Hp), Grown G H G' H' → Rep K cl G' v y → Q v H') : spP K cl n f vs H Q EN :=
  ⟨hl, G, xs, .ret y, st, rl, hf, fun v G' H' g r => k v G' H' g r⟩
section
variable {X : Cx}
/-- the call of an own def that raises nothing, wherever it is made -/
theorem run_q {k : Nat} {f : Addr} {fd : FuncData} {ps : List Str} {sp : Sp} {A' : Around} {pins : List (Addr × Obj)} {σ : L2.St} {H : Hp} {s : Shared} {Q : VK} {us : List Value} {vs : List V} {E' : Value → Shared → Prop} (hA : A'.frames = X.A.frames) (hr : Room k A')
    (F : FnOk X.prog X.w X.K X.mg X.base (L2N.CX X.prog X.w) k f fd ps sp) (hb : Binds X.K fd ps []) (I : Inv X pins σ H s) (r : Vals vs us) (h : sp vs H Q EN) : wpAny (model X.prog X.w) A' (call (.ref f) us) (EP X pins σ Q) E' s := by
  have hl : us.length = ps.length := by rw [← r.length]; exact F.len _ _ _ _ h
  have b := hb s us I.kIn (by rw [List.append_nil]; exact hl)
  rw [List.append_nil] at b
  have e0 : Env0 X.prog X.w X.K X.mg X.base A' X.stack s H := by
    have e := I.env0
    exact ⟨by rw [hA]; exact e.frames, e.mod, e.bs, e.bsz, e.funs, e.frf, e.hok, e.bare⟩
  refine wpAny_call (codeAny_mono (F.run A' X.stack s H ⟨us, []⟩ us vs Q EN hr e0 b r h) fun q s' hq => ?_)
  cases q with
  | error e =>
    obtain ⟨_, _, _, _, _, _, _, _, _, _, _, _, no⟩ := hq
    exact no.elim
  | ok fl =>
    cases fl with
    | ret u => exact I.after hq
    | next => exact False.elim hq
    | brk => exact False.elim hq
    | cont => exact False.elim hq
theorem ins_inst {pins : List (Addr × Obj)} {σ : L2.St} {H : Hp} {s : Shared} {a C dx : Addr} {fs : List (Str × V)} (I : Inv X pins σ H s) (e : H a = some (.ins C dx fs)) : ∃ ox od, PySem.W.InstAt s.heap a ox C (some od) ∧ ox.data = .plain := by
  obtain ⟨mA, J, _⟩ := ins_get I.hok e
  obtain ⟨od, J, _⟩ := J.look
  exact ⟨_, od, J, rfl⟩

/-! ### len(o) -/
def rLenO (C : Addr) (sp : Sp) : List V → Hp → VK → Prop := fun xs H Q => ∃ a dx fs, xs = [.ref a] ∧ H a = some (.ins C dx fs) ∧ sp [.ref a] H (fun v H' => ∃ n : Int, v = .int n ∧ (0 ≤ n ∧ n < 2 ^ 63) ∧ Q (.int n) H') EN
theorem call_lenO {k : Nat} {f C : Addr} {fd : FuncData} {ps : List Str} {sp : Sp} (hs : PySem.W.findIn X.K (.ref C) "__len__" = some (some (.ref f))) (hf : PySem.W.isFn X.K (.ref f) = true) (hr : Room (k + 1) X.A) (F : FnOk X.prog X.w X.K X.mg X.base (L2N.CX X.prog X.w) k f fd ps sp) (hb : Binds X.K fd ps []) :
    CallR X (.builtin "len") (rLenO C sp) := by
  intro pins s σ H xs us Q I r h
  obtain ⟨a, dx, fs, rfl, e, h⟩ := h
  obtain ⟨u, rfl, ru⟩ := vals1 r
  obtain rfl : u = Value.ref a := ru
  obtain ⟨ox, od, J, _⟩ := ins_inst I e
  obtain ⟨m, fr⟩ := I.fr
  refine PySem.W.len_K fr I.ok.mod.kin J hs hf (thn (run_q (vs := [V.ref a]) (us := [Value.ref a]) rfl hr.in1 F hb I (.cons rfl .nil) h) fun w s' ⟨v, H', I', rv, n, ev, hn, q⟩ => ?_)
  subst ev
  obtain ⟨t, rfl⟩ := rv
  exact ⟨hn, .int n, H', I'.tok _, ⟨_, rfl⟩, q⟩

/-! ### y in o -/
def rInO (C : Addr) (sp : Sp) (n : Bool) : R2 := fun y x H Q => ∃ a dx fs, x = .ref a ∧ H a = some (.ins C dx fs) ∧ sp [.ref a, y] H (fun v H' => ∃ b : Bool, v = .bl b ∧ Q (.bl (if n then !b else b)) H') EN
theorem op_inO {k : Nat} {f C : Addr} {fd : FuncData} {ps : List Str} {sp : Sp} (hs : PySem.W.findIn X.K (.ref C) "__contains__" = some (some (.ref f))) (hf : PySem.W.isFn X.K (.ref f) = true) (hr : Room k X.A) (F : FnOk X.prog X.w X.K X.mg X.base (L2N.CX X.prog X.w) k f fd ps sp) (hb : Binds X.K fd ps []) :
    OpR X (compareOp .In) (rInO C sp false) := by
  intro pins s σ H y x u v Q I ry rx h
  obtain ⟨a, dx, fs, rfl, e, h⟩ := h
  obtain rfl : v = Value.ref a := rx
  obtain ⟨ox, od, J, _⟩ := ins_inst I e
  obtain ⟨m, fr⟩ := I.fr
  refine PySem.W.in_K fr I.ok.mod.kin J hs hf (thn (run_q (vs := [V.ref a, y]) (us := [Value.ref a, u]) rfl hr F hb I (.cons rfl (.cons ry .nil)) h) fun w s' ⟨v, H', I', rv, b, ev, q⟩ => ?_)
  subst ev
  cases rv
  exact wpAny_truthy_bool ⟨.bl b, H', I', rfl, q⟩

/-! ### o == y -/
def rEqO (C : Addr) (sp : Sp) (K : PySem.W.Frag) : R2 := fun x y H Q => ∃ a dx fs tb, x = .ref a ∧ H a = some (.ins C dx fs) ∧ TyX K H y tb ∧ PySem.W.notFirst K C tb = true ∧ sp [.ref a, y] H (fun v H' => ∃ b : Bool, v = .bl b ∧ Q (.bl b) H') EN
theorem op_eqO {k : Nat} {f C : Addr} {fd : FuncData} {ps : List Str} {sp : Sp} (hs : PySem.W.findIn X.K (.ref C) "__eq__" = some (some (.ref f))) (hf : PySem.W.isFn X.K (.ref f) = true) (hr : Room k X.A) (F : FnOk X.prog X.w X.K X.mg X.base (L2N.CX X.prog X.w) k f fd ps sp) (hb : Binds X.K fd ps []) :
    OpR X (compareOp .Eq) (rEqO C sp X.K) := by
  intro pins s σ H x y v u Q I rx ry h
  obtain ⟨a, dx, fs, tb, rfl, e, ty, nf, h⟩ := h
  obtain rfl : v = Value.ref a := rx
  obtain ⟨ox, od, J, _⟩ := ins_inst I e
  obtain ⟨m, fr⟩ := I.fr
  obtain ⟨P, Z, p, _⟩ := kit_of I ry ty
  show wpAny (model X.prog X.w) X.A (richCompare .Eq (.ref a) u) (EP X pins σ Q) X.xe s
  refine PySem.W.cmp_K (op := .Eq) (tb := tb) hr.units0 fr I.ok.mod.kin J (Z.ty _ _ I.kIn p) nf hs hf (thn (run_q (vs := [V.ref a, y]) (us := [Value.ref a, u]) rfl hr F hb I (.cons rfl (.cons ry .nil)) h) fun w s' ⟨v, H', I', rv, b, ev, q⟩ => ?_)
  subst ev
  cases rv
  exact ⟨.bl b, H', I', rfl, q⟩
end

/-! ### operations that call: what stood stands -/
def BinGS (K : PySem.W.Frag) (cl : Nat → Addr) (r : R2) (g : PV → PV → Option PV) : Prop :=
  ∀ (G H : Hp) (v u : V) (x y z : PV) (Q : VK), Same G H → Rep K cl G v x → Rep K cl G u y → g x y = some z → (∀ w G' H', Grown G H G' H' → Rep K cl G' w z → Q w H') → r v u H Q
theorem Grown.res1 {K : PySem.W.Frag} {cl : Nat → Addr} {G H H' : Hp} {z : PV} {w : V} (e : Same G H) (q : Res1 K cl G H z w H') : ∃ G', Grown G H G' H' ∧ Rep K cl G' w z := by
  rcases q with ⟨rfl, r⟩ | ⟨p, o, hp, rfl, r⟩
  · exact ⟨G, ⟨Same.refl _, e, Same.refl _, fun a o h => .inl h⟩, r⟩
  · refine ⟨_, ⟨same_new (e.free hp), same_upd e, same_new hp, fun a u h => ?_⟩, r⟩
    by_cases z : a = p
    · rw [z]; exact .inr hp
    · rw [upd_ne z] at h
      exact .inl h
theorem BinS.g {K : PySem.W.Frag} {cl : Nat → Addr} {r : R2} {g : PV → PV → Option PV} (h : BinS K cl r g) : BinGS K cl r g := by
  intro G H v u x y z Q e rv ru hz k
  refine h G H v u x y z Q e rv ru hz fun w H' q => ?_
  obtain ⟨G', gr, r'⟩ := Grown.res1 e q
  exact k w G' H' gr r'
def orG (g g' : PV → PV → Option PV) : PV → PV → Option PV := fun x y => match g x y with
  | some z => some z
  | none => g' x y
theorem BinGS.or {K : PySem.W.Frag} {cl : Nat → Addr} {r r' : R2} {g g' : PV → PV → Option PV} (h : BinGS K cl r g) (h' : BinGS K cl r' g') : BinGS K cl (fun x y H Q => r x y H Q ∨ r' x y H Q) (orG g g') := by
  intro G H v u x y z Q e rv ru hz k
  unfold orG at hz
  split at hz
  · rename_i z' ez
    cases hz
    exact .inl (h G H v u x y _ Q e rv ru ez k)
  · exact .inr (h' G H v u x y z Q e rv ru hz k)
def BinGR (X : Cx) (cl : Nat → Addr) (f : Value → Value → Sem Value) (g : PV → PV → Option PV) : Prop := ∃ r : R2, OpR X f r ∧ BinGS X.K cl r g
section
variable {X : Cx} {cl : Nat → Addr} {W : WX} {pos : Pos}
theorem BinR.g {f : Value → Value → Sem Value} {g : PV → PV → Option PV} (h : BinR X cl f g) : BinGR X cl f g := by
  obtain ⟨r, ho, hs⟩ := h
  exact ⟨r, ho, hs.g⟩
theorem BinGR.or {f : Value → Value → Sem Value} {g g' : PV → PV → Option PV} (h : BinGR X cl f g) (h' : BinGR X cl f g') : BinGR X cl f (orG g g') := by
  obtain ⟨r, ho, hs⟩ := h
  obtain ⟨r', ho', hs'⟩ := h'
  exact ⟨_, ho.or ho', hs.or hs'⟩
theorem does_binG {g : PV → PV → Option PV} {r : R2} {ta tb : TE} {ma mb : M PV} (hr : BinGS X.K cl r g) (h1 : Does X.K cl W (RV X.K cl) ta ma) (h2 : Does X.K cl W (RV X.K cl) tb mb) : Does X.K cl W (RV X.K cl) (tOp r ta tb) (mBin g ma mb) := by
  intro F G H σ S rr Q st hm hp
  refine h1.step st hm hp fun x S1 v G1 H1 hm1 s1 st1 rv hp1 => ?_
  refine h2.step st1 hm1 hp1 fun y S2 u G2 H2 hm2 s2 st2 ru hp2 => ?_
  obtain ⟨z, ez, rfl⟩ := lift_eq hm2
  exact hr G2 H2 v u x y z Q st2.ex (rv.mono s2) ru ez fun w G' H' gr r' => hp2 w G' H' gr.g (st2.grown gr) r'
theorem em_cmpG {op : CmpOp} {a b : Expr} {g : PV → PV → Option PV} {ma mb : M PV} (hb : BinGR X cl (compareOp op) g) (ha : EM X cl W a ma) (hb' : EM X cl W b mb) (hm : behindInMarks op b = false) : EM X cl W (.Compare a [op] [b] pos) (mBin g ma mb) := by
  obtain ⟨ta, pa, da⟩ := ha
  obtain ⟨tb, pb, db⟩ := hb'
  obtain ⟨r, ho, hs⟩ := hb
  exact ⟨_, pe_cmpR ho pa pb hm, does_binG hs da db⟩
theorem tm_cmpG {op : CmpOp} {a b : Expr} {g : PV → PV → Option PV} {ma mb : M PV} (hb : BinGR X cl (compareOp op) g) (ha : EM X cl W a ma) (hb' : EM X cl W b mb) (hm : behindInMarks op b = false) : TM X cl W (.Compare a [op] [b] pos) (mTest (mBin g ma mb)) := by
  obtain ⟨ta, pa, da⟩ := ha
  obtain ⟨tb, pb, db⟩ := hb'
  obtain ⟨r, ho, hs⟩ := hb
  exact ⟨_, pt_cmpR ho pa pb hm, does_test (does_binG hs da db)⟩
/-- o == y by the class's own __eq__ -/
def roB : Option RO → Option PV
  | some (.ret (.bl b)) => some (.bl b)
  | _ => none
theorem roB_some {r : Option RO} {z : PV} (h : roB r = some z) : ∃ b, r = some (.ret (.bl b)) ∧ z = .bl b := by
  unfold roB at h
  split at h
  · rename_i b
    cases h
    exact ⟨b, rfl, rfl⟩
  · cases h
def pEqO (c : Nat) (ok : PV → Bool) (f : List PV → Option RO) (x y : PV) : Option PV := match x with
  | .obj d fs => if d = c ∧ ok y = true then roB (f [.obj d fs, y]) else none
  | _ => none
theorem br_eqO {k c : Nat} {f : Addr} {fd : FuncData} {ps : List Str} {g : List PV → Option RO} {ok : PV → Bool} (hs : PySem.W.findIn X.K (.ref (cl c)) "__eq__" = some (some (.ref f))) (hf : PySem.W.isFn X.K (.ref f) = true) (hr : Room k X.A) (F : FnOk X.prog X.w X.K X.mg X.base (L2N.CX X.prog X.w) k f fd ps (spP X.K cl 2 g)) (hb : Binds X.K fd ps [])
    (hok : ∀ y, ok y = true → ∃ t, tyVl cl y = some t ∧ (∀ (G H : Hp) (v : V), Same G H → Rep X.K cl G v y → TyX X.K H v t) ∧ PySem.W.notFirst X.K (cl c) t = true) : BinGR X cl (compareOp .Eq) (pEqO c ok g) := by
  refine ⟨_, op_eqO hs hf hr F hb, ?_⟩
  intro G H v u x y z Q e rv ru hz kk
  unfold pEqO at hz
  cases x <;> try (cases hz; done)
  dsimp only at hz
  split at hz <;> try (cases hz; done)
  rename_i q
  obtain ⟨q1, q2⟩ := q
  subst q1
  obtain ⟨b, eb, rfl⟩ := roB_some hz
  obtain ⟨t, _, ht, nf⟩ := hok y q2
  obtain ⟨a, dx, gs, ea, eg⟩ : ∃ a dx gs, v = .ref a ∧ G a = some (.ins (cl _) dx gs) := by
    cases rv with
    | obj h1 h2 => exact ⟨_, _, _, rfl, h1⟩
  subst ea
  exact ⟨a, dx, gs, t, rfl, e _ _ eg, ht G H u e ru, nf, spP_quiet' e (.cons rv (.cons ru .nil)) rfl eb fun w G' H' gr r' => by cases r'; exact ⟨b, rfl, kk _ G' H' gr (.bl b)⟩⟩
/-- y in o by the class's own __contains__ -/
def pInO (c : Nat) (f : List PV → Option RO) (y x : PV) : Option PV := match x with
  | .obj d fs => if d = c then roB (f [.obj d fs, y]) else none
  | _ => none
theorem br_inO {k c : Nat} {f : Addr} {fd : FuncData} {ps : List Str} {g : List PV → Option RO} (hs : PySem.W.findIn X.K (.ref (cl c)) "__contains__" = some (some (.ref f))) (hf : PySem.W.isFn X.K (.ref f) = true) (hr : Room k X.A) (F : FnOk X.prog X.w X.K X.mg X.base (L2N.CX X.prog X.w) k f fd ps (spP X.K cl 2 g)) (hb : Binds X.K fd ps []) : BinGR X cl (compareOp .In) (pInO c g) := by
  refine ⟨_, op_inO hs hf hr F hb, ?_⟩
  intro G H u v y x z Q e ru rv hz kk
  unfold pInO at hz
  cases x <;> try (cases hz; done)
  dsimp only at hz
  split at hz <;> try (cases hz; done)
  rename_i q
  subst q
  obtain ⟨b, eb, rfl⟩ := roB_some hz
  obtain ⟨a, dx, gs, ea, eg⟩ : ∃ a dx gs, v = .ref a ∧ G a = some (.ins (cl _) dx gs) := by
    cases rv with
    | obj h1 h2 => exact ⟨_, _, _, rfl, h1⟩
  subst ea
  exact ⟨a, dx, gs, rfl, e _ _ eg, spP_quiet' e (.cons rv (.cons ru .nil)) rfl eb fun w G' H' gr r' => by cases r'; exact ⟨b, rfl, by rw [if_neg Bool.false_ne_true]; exact kk _ G' H' gr (.bl b)⟩⟩
/-- len(o) by the class's own __len__ -/
def roN : Option RO → Option PV
  | some (.ret (.int n)) => if 0 ≤ n ∧ n < 2 ^ 63 then some (.int n) else none
  | _ => none
theorem roN_some {r : Option RO} {z : PV} (h : roN r = some z) : ∃ n : Int, r = some (.ret (.int n)) ∧ z = .int n ∧ 0 ≤ n ∧ n < 2 ^ 63 := by
  unfold roN at h
  split at h
  · rename_i n
    split at h
    · rename_i hn
      cases h
      exact ⟨n, rfl, rfl, hn⟩
    · cases h
  · cases h
def pLenO (c : Nat) (f : List PV → Option RO) (x : PV) : Option PV := match x with
  | .obj d fs => if d = c then roN (f [.obj d fs]) else none
  | _ => none
def mLenO (c : Nat) (f : List PV → Option RO) (m : M PV) : M PV := mUn (pLenO c f) m
theorem em_lenO {k c : Nat} {f : Addr} {fd : FuncData} {ps : List Str} {g : List PV → Option RO} {e : Expr} {m : M PV} {p : Pos} (hs : PySem.W.findIn X.K (.ref (cl c)) "__len__" = some (some (.ref f))) (hf : PySem.W.isFn X.K (.ref f) = true) (hr : Room (k + 1) X.A) (F : FnOk X.prog X.w X.K X.mg X.base (L2N.CX X.prog X.w) k f fd ps (spP X.K cl 1 g)) (hb : Binds X.K fd ps [])
    (hm : X.mg "len" = none) (ha : EM X cl W e m) (hg : Gl X "len" := by rfl) (hv : bootBuiltins "len" = some (.builtin "len") := by rfl) (he : starEach [e] X.env = (false, eval e X.env) :: starEach [] X.env := by rfl) (hpl : (backTo pos (starEach [] X.env)).any (·.1) = false := by rfl) :
    EM X cl W (.Call (.Name "len" p) [e] [] pos) (mLenO c g m) := by
  obtain ⟨t, pe, d⟩ := ha
  refine ⟨_, pe_callB (call_lenO hs hf hr F hb) hg hm hv (pa_cons pe pa_nil he) (by decide) (by decide) he hpl, fun F G H σ S rr Q st hm hp => ?_⟩
  refine d.step (R2 := RV X.K cl) st hm hp fun y S1 v G1 H1 hm1 s1 st1 rv hp1 => ?_
  obtain ⟨z, ez, rfl⟩ := lift_eq hm1
  unfold pLenO at ez
  cases y <;> try (cases ez; done)
  dsimp only at ez
  split at ez <;> try (cases ez; done)
  rename_i q
  subst q
  obtain ⟨n, en, rfl, hn⟩ := roN_some ez
  obtain ⟨a, dx, gs, ea, eg⟩ : ∃ a dx gs, v = .ref a ∧ G1 a = some (.ins (cl _) dx gs) := by
    cases rv with
    | obj h1 h2 => exact ⟨_, _, _, rfl, h1⟩
  subst ea
  exact ⟨a, dx, gs, rfl, st1.ex _ _ eg, spP_quiet' st1.ex (.cons rv .nil) rfl en fun w G' H' gr r' => by cases r'; exact ⟨n, rfl, hn, hp1 _ G' H' gr.g (st1.grown gr) (.int n)⟩⟩
/-- o(e, ..) by the class's own __call__ -/
def roQ : Option RO → M PV
  | some (.ret y) => ret y
  | _ => fun _ => none
theorem roQ_some {r : Option RO} {S : Sto} {q : Rs PV} (h : roQ r S = some q) : ∃ y, r = some (.ret y) ∧ q = .ok y S := by
  rcases r with _ | (y | ⟨c, fs⟩)
  · cases h
  · cases h
    exact ⟨y, rfl, rfl⟩
  · cases h
def mCallO (c : Nat) (f : List PV → Option RO) (mo : M PV) (ms : List (M PV)) : M PV := bnd mo fun x => match x with
  | .obj d fs => if d = c then bnd (mArgs ms) fun xs => roQ (f (.obj d fs :: xs)) else fun _ => none
  | _ => fun _ => none
theorem em_callO {k c n : Nat} {f : Addr} {fd : FuncData} {ps : List Str} {g : List PV → Option RO} {fe e : Expr} {es : List Expr} {mo : M PV} {ms : List (M PV)} (co : _root_.StX.CallO X.K (cl c) f) (hr : Room k X.A) (F : FnOk X.prog X.w X.K X.mg X.base (L2N.CX X.prog X.w) k f fd ps (spP X.K cl n g)) (hb : Binds X.K fd ps [])
    (hf : EM X cl W fe mo) (ha : AM X cl W (e :: es) (mArgs ms)) (hl : ms.length + 1 = n := by rfl)
    (ht : eval (.Call fe (e :: es) [] pos) X.env = (do callWith pos (← eval fe X.env) [] (backTo pos (starEach (e :: es) X.env)) (backToKw pos (keywordEach [] X.env))) := by rfl)
    (he : starEach (e :: es) X.env = (false, eval e X.env) :: starEach es X.env := by rfl) (hpl : (backTo pos (starEach es X.env)).any (·.1) = false := by rfl) :
    EM X cl W (.Call fe (e :: es) [] pos) (mCallO c g mo ms) := by
  obtain ⟨to, po, do_⟩ := hf
  obtain ⟨t, pa, da⟩ := ha
  have hx : Passes (L2N.CX X.prog X.w) X EN := fun pins σ H s e s' I hq => by
    obtain ⟨_, _, _, _, _, _, _, _, _, _, _, _, no⟩ := hq
    exact no.elim
  refine ⟨_, _root_.StX.pe_callO po co (F.raw hb (ds := []) (dvs := []) .nil) hr hx pa ht he hpl, fun F G H σ S rr Q st hm hp => ?_⟩
  refine do_.step (R2 := RV X.K cl) st hm hp fun y S1 v G1 H1 hm1 s1 st1 rv hp1 => ?_
  cases y <;> try (cases hm1; done)
  dsimp only at hm1
  split at hm1 <;> try (cases hm1; done)
  rename_i q
  subst q
  obtain ⟨a, dx, gs, ea, eg⟩ : ∃ a dx gs, v = .ref a ∧ G1 a = some (.ins (cl _) dx gs) := by
    cases rv with
    | obj h1 h2 => exact ⟨_, _, _, rfl, h1⟩
  subst ea
  refine ⟨a, rfl, ?_⟩
  refine da.step' (R2 := RV X.K cl) st1 hm1 hp1 fun ys S2 vs G2 H2 e2 hm2 s2 st2 rvs hp2 => ?_
  refine ⟨.inr ⟨dx, gs, st2.ex _ _ (s2 _ _ eg)⟩, ?_⟩
  show spP X.K cl n g ((V.ref a :: vs) ++ []) H2 Q EN
  rw [List.append_nil]
  obtain ⟨y, ey, rfl⟩ := roQ_some hm2
  exact spP_quiet' st2.ex (.cons (rv.mono s2) rvs) (by rw [List.length_cons, rvs.length, mArgs_len e2]; exact hl) ey fun w G' H' gr r' => hp2 w G' H' gr.g (st2.grown gr) r'
end
end Kp
set_option Elab.async false
set_option linter.all false
set_option maxRecDepth 100000
set_option maxHeartbeats 2000000
namespace Kp
open PySem PyProof.Rows L2

/-! ### sorted(..) of data -/
section
variable {prog : Program} {w : World} {A : Around} {E : Value → Shared → Prop} {s : Shared} {β : Type} {R : Value → β → Prop} {enc : β → PyData}
/-- whatever is collected (the items ys, which may come in any order), sorted into a new list -/
theorem sorted_by {u : Value} {C : List β → Prop} {Q : Value → Shared → Prop}
    (hcol : ∀ P : List Value → Shared → Prop, (∀ (ys : List Value) (h' : Heap) (tk : Nat) (cs : List β), (∀ b o, s.heap.get? b = some o → h'.get? b = some o) → PySem.W.EachIs R ys cs → PySem.W.EachIs (fun v b => ∃ as, PySem.Reads h' v (enc b) as) ys cs → C cs → P ys { s with heap := h', toks := tk }) → wpAny (model prog w) A.in1 (collect u) P E s)
    (hal : ∀ cs, C cs → PySem.W.AllAlike (cs.map enc) ∧ PySem.W.Sortable (cs.map enc) ∧ cs.length ≤ sizeLine ∧ ∀ b, b ∈ cs → A.units + 2 + (enc b).depth < cLine)
    (h : ∀ (out : List Value) (h1 h2 : Heap) (tk : Nat) (p : Addr) (n : Nat) (cs : List β), (∀ b o, s.heap.get? b = some o → h1.get? b = some o) → h1.objs.size ≤ p → (∀ b o, h1.get? b = some o → h2.get? b = some o) → h2.get? p = some (seqObj "list" out.toArray n) → C cs → PySem.W.EachIs R out (cs.mergeSort (PySem.W.dataLe false enc)) → Q (.ref p) { s with heap := h2, toks := tk }) :
    wpAny (model prog w) A (call (.builtin "sorted") [u]) Q E s := by
  refine PySem.Calls.call_function_entry kind_sorted plain_sorted entry_sorted (args_sorted1 _) ?_
  unfold Builtin.«sorted»
  refine wpAny_bind (m := checkCount "sorted" 1 1 _) (wpAny_pure ?_)
  refine wpAny_bind (hcol _ fun ys h' tk cs keep e er pm => ?_)
  obtain ⟨hal', hk', hL, hu⟩ := hal cs pm
  have hlen : ys.length ≤ sizeLine := by rw [e.length]; exact hL
  refine wpAny_bind (wpAny_newList ?_ hlen)
  have ho : (h'.push (seqObj "list" ys.toArray 0)).get? h'.objs.size = some (seqObj "list" ys.toArray 0) := Heap.get?_push_size _ rfl
  have old : ∀ b o, h'.get? b = some o → (PySem.W.sortingHeap (h'.push (seqObj "list" ys.toArray 0)) h'.objs.size ys).get? b = some o := fun b o q =>
    PySem.W.sortingHeap_old (Nat.ne_of_lt (Heap.lt_size q)) (Heap.get?_push_of_some _ q)
  have er' : PySem.W.EachIs (fun v b => ∃ as, PySem.Reads (PySem.W.sortingHeap (h'.push (seqObj "list" ys.toArray 0)) h'.objs.size ys) v (enc b) as) ys cs := er.mono fun _ _ ⟨as, r⟩ => ⟨as, PyProof.Rows.Reads.keeps old r⟩
  have S := PySem.W.SortsAt.data (prog := prog) (w := w) (A := A.in1.in1) (s := { s with heap := PySem.W.sortingHeap (h'.push (seqObj "list" ys.toArray 0)) h'.objs.size ys, toks := tk })
    (PySem.W.each_map (R := fun v d => ∃ as, PySem.Reads (PySem.W.sortingHeap (h'.push (seqObj "list" ys.toArray 0)) h'.objs.size ys) v d as) enc er') hal' hk' (PySem.W.bound_map fun b hb => by
      have q := hu b hb
      show A.units + 1 + 1 + _ < _
      omega)
  show wpAny _ _ _ _ _ { s with heap := h'.push (seqObj "list" ys.toArray 0), toks := tk }
  refine wpAny_bind (wpAny_holding (wpAny_call_entry slot_list_sort ⟨_, ho, rfl⟩ entry_list_sort
    (PySem.W.list_sort_vals (s := { s with heap := h'.push (seqObj "list" ys.toArray 0), toks := tk }) ho S hlen ⟨_, rfl, ?_⟩) (args_list_sort _)))
  obtain ⟨n, hat⟩ := sortedHeap_at (out := (PySem.W.sortVals (PySem.W.dataKind (PySem.W.sortingHeap (h'.push (seqObj "list" ys.toArray 0)) h'.objs.size ys) (cs.map enc)) false ys ys).toArray) ho
  refine wpAny_pure ⟨_, rfl, h _ h' _ tk h'.objs.size n cs keep (Nat.le_refl _) (fun b o q' => ?_) hat pm (PySem.W.sortVals_data false e er' hal')⟩
  have hb := Heap.lt_size q'
  rw [sortedHeap_old (Nat.ne_of_lt hb) (by rw [size_push']; exact Nat.lt_succ_of_lt hb)]
  exact Heap.get?_push_of_some _ q'
end

/-! #### the pure order -/
def leP (x y : PV) : Bool := PySem.W.dataLe false PV.dat x y
def alikeLP : List PV → Bool
  | xs => xs.all fun x => xs.all fun y => PySem.W.alike (PV.dat x) (PV.dat y)
def isTup1 : PV → Bool
  | .tup (_ :: _) => true
  | _ => false
def isTupNon : PV → Bool
  | .tup _ => true
  | .non => true
  | _ => false
def sortableP (xs : List PV) : Bool := xs.all isTup1 || xs.all fun x => !isTupNon x
def sortOk (xs : List PV) : Bool := PV.isDL xs && alikeLP xs && sortableP xs && decide (xs.length ≤ sizeLine) && xs.all fun x => decide ((PV.dat x).depth ≤ 60)
def sortP (xs : List PV) : List PV := xs.mergeSort leP
theorem isDL_mem {x : PV} : ∀ {xs : List PV}, PV.isDL xs = true → x ∈ xs → PV.isD x = true
  | [], _, h => by cases h
  | y :: ys, hd, h => by
    unfold PV.isDL at hd
    rw [Bool.and_eq_true] at hd
    rcases List.mem_cons.mp h with z | z
    · rw [z]; exact hd.1
    · exact isDL_mem hd.2 z
theorem allAlike_of {xs : List PV} (h : alikeLP xs = true) : PySem.W.AllAlike (xs.map PV.dat) := by
  intro d hd d' hd'
  obtain ⟨x, hx, rfl⟩ := List.mem_map.mp hd
  obtain ⟨y, hy, rfl⟩ := List.mem_map.mp hd'
  exact List.all_eq_true.mp (List.all_eq_true.mp h x hx) y hy
theorem sortable_of {xs : List PV} (hd : PV.isDL xs = true) (h : sortableP xs = true) : PySem.W.Sortable (xs.map PV.dat) := by
  unfold sortableP at h
  rcases Bool.or_eq_true_iff.mp h with h | h
  · refine .inl fun d hd => ?_
    obtain ⟨x, hx, rfl⟩ := List.mem_map.mp hd
    have q := List.all_eq_true.mp h x hx
    unfold isTup1 at q
    split at q
    · rename_i a r
      exact ⟨PV.dat a, PV.datL r, rfl⟩
    · cases q
  · refine .inr fun d hd' => ?_
    obtain ⟨x, hx, rfl⟩ := List.mem_map.mp hd'
    have q := List.all_eq_true.mp h x hx
    have hdx : PV.isD x = true := isDL_mem hd hx
    cases x <;> first | (cases q; done) | (cases hdx; done) | exact ⟨(by intro z; cases z), (by intro ys z; cases z)⟩
/-- values with what they stand for -/
theorem repL_each {X : Cx} {cl : Nat → Addr} {pins : List (Addr × Obj)} {σ : L2.St} {G H : Hp} {s : Shared} (I : Inv X pins σ H s) (e : Same G H) : ∀ {vs : List V} {xs : List PV} {us : List Value}, RepL X.K cl G vs xs → PV.isDL xs = true → Vals vs us →
    PySem.W.EachIs (fun u (p : V × PV) => RelV p.1 u ∧ Rep X.K cl G p.1 p.2) us (vs.zip xs) ∧ PySem.W.EachIs (fun u (p : V × PV) => ∃ as, PySem.Reads s.heap u (PV.dat p.2) as) us (vs.zip xs)
  | _, _, _, .nil, _, .nil => ⟨.nil, .nil⟩
  | _, _, _, .cons r rs, hd, .cons v vs => by
    unfold PV.isDL at hd
    rw [Bool.and_eq_true] at hd
    obtain ⟨h1, h2⟩ := repL_each I e rs hd.2 vs
    exact ⟨.cons ⟨v, r⟩ h1, .cons (Dp.reads I _ _ _ ((r.mono e).dp hd.1) v) h2⟩
theorem each_vals {X : Cx} {cl : Nat → Addr} {G : Hp} : ∀ {out : List Value} {ps : List (V × PV)}, PySem.W.EachIs (fun u (p : V × PV) => RelV p.1 u ∧ Rep X.K cl G p.1 p.2) out ps → Vals (ps.map (·.1)) out ∧ RepL X.K cl G (ps.map (·.1)) (ps.map (·.2))
  | _, _, .nil => ⟨.nil, .nil⟩
  | _, _, .cons h t => by
    obtain ⟨h1, h2⟩ := each_vals t
    exact ⟨.cons h.1 h1, .cons h.2 h2⟩
theorem zip_snd {K : PySem.W.Frag} {cl : Nat → Addr} {H : Hp} : ∀ {vs : List V} {xs : List PV}, RepL K cl H vs xs → (vs.zip xs).map (·.2) = xs
  | _, _, .nil => rfl
  | _, _, .cons _ rs => by rw [List.zip_cons_cons, List.map_cons, zip_snd rs]
theorem sort_snd (ps : List (V × PV)) : (ps.mergeSort (PySem.W.dataLe false fun p : V × PV => PV.dat p.2)).map (·.2) = sortP (ps.map (·.2)) := by
  unfold sortP
  exact List.map_mergeSort (fun a _ b _ => rfl)
def pSorted : List PV → Option PV
  | [.lst xs] => if sortOk xs = true then some (.lst (sortP xs)) else none
  | [.tup xs] => if sortOk xs = true then some (.lst (sortP xs)) else none
  | _ => none
section
variable {X : Cx} {cl : Nat → Addr}
def rSortedA (K : PySem.W.Frag) (cl : Nat → Addr) : List V → Hp → VK → Prop := fun vs H Q => ∃ (a : Addr) (ws : List V) (G : Hp) (xs : List PV), vs = [.ref a] ∧ (SqL K H a ws ∨ SqT K H a ws) ∧ Same G H ∧ RepL K cl G ws xs ∧ sortOk xs = true ∧
  ∀ (p : Addr) (ys : List V), H p = none → ys.length ≤ sizeLine → RepL K cl G ys (sortP xs) → Q (.ref p) (upd H p (.lst ys))
theorem cr_sortedA (hu : X.A.units + 64 < cLine) : CallR X (.builtin "sorted") (rSortedA X.K cl) := by
  intro pins s σ H vs us Q I r h
  obtain ⟨a, ws, G, xs, rfl, hs, e, rl, ok, q⟩ := h
  obtain ⟨u, rfl, ru⟩ := vals1 r
  obtain rfl : u = Value.ref a := ru
  simp only [sortOk, Bool.and_eq_true, decide_eq_true_eq] at ok
  obtain ⟨⟨⟨⟨o1, o2⟩, o3⟩, o4⟩, o5⟩ := ok
  obtain ⟨T, o, items, n, hT, ho, hc, hd, rv, hz⟩ : ∃ (T : String) (o : Obj) (items : Array Value) (n : Nat), (T = "list" ∨ T = "tuple") ∧ s.heap.get? a = some o ∧ o.cls = .type T ∧ o.data = .seq items n ∧ Vals ws items.toList ∧ items.size ≤ sizeLine := by
    rcases hs with hs | hs
    · obtain ⟨its, rv, ⟨o, n, ho, hc, _, hd⟩, hz⟩ := I.list hs
      exact ⟨"list", o, its.toArray, n, .inl rfl, ho, hc, hd, by simpa using rv, by rw [List.size_toArray, ← rv.length]; exact hz⟩
    · obtain ⟨its, rv, ⟨o, ho, hc, n, hd⟩, hz⟩ := I.tuple hs
      exact ⟨"tuple", o, its.toArray, n, .inr rfl, ho, hc, hd, by simpa using rv, by rw [List.size_toArray, ← rv.length]; exact hz⟩
  have hen : (ws.zip xs).map (fun p : V × PV => PV.dat p.2) = xs.map PV.dat := by
    have z : (ws.zip xs).map (fun p : V × PV => PV.dat p.2) = ((ws.zip xs).map (·.2)).map PV.dat := by rw [List.map_map]; rfl
    rw [z, zip_snd rl]
  refine sorted_by (C := fun cs => cs = ws.zip xs) (enc := fun p : V × PV => PV.dat p.2) (R := fun u (p : V × PV) => RelV p.1 u ∧ Rep X.K cl G p.1 p.2) (fun P hP => ?_) (fun cs hcs => ?_) fun out h1 h2 tk p n2 cs k1 hp k2 hat hcs eo => ?_
  · refine PySem.wpAny_collect_seq a hT ho hc hd (fun h' keep => ?_) hz
    have I1 : Inv X pins σ H { s with heap := h' } := I.kept (t' := s.toks) keep
    obtain ⟨g1, g2⟩ := repL_each I1 e rl o1 rv
    exact hP _ h' s.toks _ keep g1 g2 rfl
  · subst hcs
    refine ⟨by rw [hen]; exact allAlike_of o2, by rw [hen]; exact sortable_of o1 o3, by rw [List.length_zip, rl.length, Nat.min_self]; exact o4, fun b hb => ?_⟩
    have hx : b.2 ∈ xs := by
      have : b.2 ∈ (ws.zip xs).map (·.2) := List.mem_map.mpr ⟨b, hb, rfl⟩
      rwa [zip_snd rl] at this
    have := of_decide_eq_true (List.all_eq_true.mp o5 b.2 hx)
    omega
  · subst hcs
    obtain ⟨v1, v2⟩ := each_vals eo
    rw [sort_snd, zip_snd rl] at v2
    have I1 : Inv X pins σ H { s with heap := h1, toks := tk } := I.kept k1
    have hlen : (((ws.zip xs).mergeSort (PySem.W.dataLe false fun p : V × PV => PV.dat p.2)).map (·.1)).length ≤ sizeLine := by
      rw [List.length_map, List.length_mergeSort, List.length_zip, rl.length, Nat.min_self]
      exact o4
    exact ⟨.ref p, upd H p (.lst _), I1.laid (t' := tk) k2 hp ⟨hlen, out, n2, v1, hat⟩, rfl, q p _ (I1.hok.fresh hp) hlen v2⟩
theorem cs_sortedA : CallSF X.K cl (rSortedA X.K cl) pSorted := by
  intro G H vs xs z Q e rl hz k
  unfold pSorted at hz
  split at hz <;> try (cases hz; done)
  all_goals
    split at hz <;> try (cases hz; done)
    rename_i ok
    cases hz
    obtain ⟨v, rfl, rv⟩ := repL1 rl
  · cases rv with
    | lst hs hl hr => exact ⟨_, _, G, _, rfl, .inl (SqL.of (e _ _ hs)), e, hr, ok, fun p ys hn hy ry => k p _ hn ⟨ys, upd_same, hy, ry⟩⟩
  · cases rv with
    | tup hs hl hr => exact ⟨_, _, G, _, rfl, .inr (sqt_mono e hs), e, hr, ok, fun p ys hn hy ry => k p _ hn ⟨ys, upd_same, hy, ry⟩⟩
end
end Kp
set_option Elab.async false
set_option linter.all false
set_option maxRecDepth 100000
set_option maxHeartbeats 2000000
namespace Kp
open PySem PyProof.Rows L2

/-! ### dict(pairs) -/
def pairsP : List PV → Option (List (PV × PV))
  | [] => some []
  | .tup [k, v] :: xs => if (isKey k).isSome = true then (pairsP xs).map ((k, v) :: ·) else none
  | _ => none
def mergeP (kvs more : List (PV × PV)) : List (PV × PV) := more.foldl (fun acc kv => dPut acc kv.1 kv.2) kvs
theorem pairsP_cons {x : PV} {xs : List PV} {kvs : List (PV × PV)} (h : pairsP (x :: xs) = some kvs) : ∃ k v r, x = .tup [k, v] ∧ (isKey k).isSome = true ∧ pairsP xs = some r ∧ kvs = (k, v) :: r := by
  unfold pairsP at h
  split at h
  · rename_i e; cases e
  · rename_i e
    cases e
    split at h
    · rename_i hk
      cases e2 : pairsP xs with
      | none => rw [e2] at h; cases h
      | some r =>
        rw [e2] at h
        cases h
        exact ⟨_, _, r, rfl, hk, rfl, rfl⟩
    · cases h
  · cases h
section
variable {X : Cx} {cl : Nat → Addr}
theorem plainT {pins : List (Addr × Obj)} {σ : L2.St} {H : Hp} {s : Shared} {a : Addr} {ws : List V} (I : Inv X pins σ H s) (h : TupAt X.K H a ws) : ∃ its : List Value, Vals ws its ∧ PySem.PlainSeq "tuple" s.heap a its.toArray ∧ ws.length ≤ sizeLine := by
  rcases h with ⟨o, hd, h⟩ | ⟨o, its, n, h1, h2, h3, h4, h5, h6⟩
  · obtain ⟨hg, hz, its, rv, o', ho', hc, n, hdat⟩ := I.hok a _ h
    rw [hg] at ho'
    cases ho'
    exact ⟨its, rv, ⟨o, n, hg, hc, hd, hdat⟩, hz⟩
  · exact ⟨its.toList, h6, ⟨o, n, I.kIn _ _ h1, h2, h3, by rw [Array.toArray_toList]; exact h4⟩, by rw [h6.length, Array.length_toList]; exact h5⟩
theorem plainL {pins : List (Addr × Obj)} {σ : L2.St} {H : Hp} {s : Shared} {a : Addr} {ws : List V} (I : Inv X pins σ H s) (h : SqL X.K H a ws) : ∃ its : List Value, Vals ws its ∧ PySem.PlainSeq "list" s.heap a its.toArray ∧ ws.length ≤ sizeLine := by
  obtain ⟨its, rv, ⟨o, n, ho, hc, hd, hdat⟩, hz⟩ := I.list h
  exact ⟨its, rv, ⟨o, n, ho, hc, hd, hdat⟩, hz⟩
/-- the pairs as the heap has them -/
theorem pairs_get {pins : List (Addr × Obj)} {σ : L2.St} {G H : Hp} {s : Shared} (I : Inv X pins σ H s) (e : Same G H) : ∀ {vs : List V} {xs : List PV} {us : List Value} {kvs : List (PV × PV)}, RepL X.K cl G vs xs → pairsP xs = some kvs → Vals vs us →
    ∃ (as : List Addr) (ps : List (Value × Value)) (gs : List (Key × V)) (rs : List (Key × Value)), us = as.map Value.ref ∧ ps.length = as.length ∧ rs.length = as.length ∧ KV gs rs ∧ RepK X.K cl G gs kvs ∧
      (∀ (j : Nat) (k v : Value), ps[j]? = some (k, v) → ∃ a, as[j]? = some a ∧ s.heap.IsTuple a #[k, v]) ∧ (∀ (j : Nat) (k v : Value), ps[j]? = some (k, v) → ∃ key, rs[j]? = some (key, v) ∧ (mixKind X.prog X.w).is key k = true)
  | _, _, _, _, .nil, h, .nil => by
    cases h
    exact ⟨[], [], [], [], rfl, rfl, rfl, .nil, .nil, fun j k v z => by simp at z, fun j k v z => by simp at z⟩
  | _, _, _, _, .cons (v := v0) r rs', h, .cons (b := u0) rv rvs => by
    obtain ⟨k, v, kr, rfl, hk, hp, rfl⟩ := pairsP_cons h
    obtain ⟨as, ps, gs, rs, e1, e2, e3, e4, e5, e6, e7⟩ := pairs_get I e rs' hp rvs
    cases r with
    | @tup a ws0 _ hs hz hr =>
      cases hr with
      | cons rk hr =>
        cases hr with
        | @cons w _ _ _ rw' hr =>
          cases hr
          obtain ⟨kk, ek⟩ := Option.isSome_iff_exists.mp hk
          obtain rfl := isKey_some ek
          obtain rfl := rep_key rk
          obtain ⟨its, rvt, ht, _⟩ := I.tuple (sqt_mono e hs)
          obtain ⟨u1, u2, rfl, ru1, ru2⟩ := vals2 rvt
          refine ⟨a :: as, (u1, u2) :: ps, (kk, w) :: gs, (kk, u2) :: rs, ?_, by rw [List.length_cons, List.length_cons, e2], by rw [List.length_cons, List.length_cons, e3], .cons ⟨rfl, ru2⟩ e4, .cons rw' e5, fun j k v z => ?_, fun j k v z => ?_⟩
          · rw [e1, List.map_cons]
            obtain rfl : u0 = Value.ref a := rv
            rfl
          · cases j with
            | zero =>
              have z' : (u1, u2) = (k, v) := by simpa using z
              cases z'
              exact ⟨a, rfl, ht⟩
            | succ j =>
              obtain ⟨b, h1, h2⟩ := e6 j k v (by simpa using z)
              exact ⟨b, by simpa using h1, h2⟩
          · cases j with
            | zero =>
              have z' : (u1, u2) = (k, v) := by simpa using z
              cases z'
              exact ⟨kk, rfl, kV_is ru1⟩
            | succ j =>
              obtain ⟨key, h1, h2⟩ := e7 j k v (by simpa using z)
              exact ⟨key, by simpa using h1, h2⟩
theorem repK_merge {K : PySem.W.Frag} {H : Hp} : ∀ {more : List (Key × V)} {mp : List (PV × PV)} {gs : List (Key × V)} {kvs : List (PV × PV)}, RepK K cl H more mp → RepK K cl H gs kvs → RepK K cl H (mergeK gs more) (mergeP kvs mp)
  | _, _, _, _, .nil, h => h
  | _, _, _, _, .cons (vs := vs) (xs := xs) r rs, h => repK_merge (more := vs) (mp := xs) rs (h.put r)
def rDictOf (K : PySem.W.Frag) (cl : Nat → Addr) : List V → Hp → VK → Prop := fun vs H Q => ∃ (a : Addr) (ws : List V) (G : Hp) (xs : List PV) (kvs : List (PV × PV)), vs = [.ref a] ∧ (SqL K H a ws ∨ TupAt K H a ws) ∧ Same G H ∧ RepL K cl G ws xs ∧ pairsP xs = some kvs ∧
  ∀ (p : Addr) (gs : List (Key × V)), H p = none → RepK K cl G gs (mergeP [] kvs) → Q (.ref p) (upd H p (.dK gs))
theorem cr_dict (hc : X.calm = true) : CallR X (.type "dict") (rDictOf X.K cl) := by
  intro pins s σ H vs us Q I r h
  obtain ⟨a, ws, G, xs, kvs, rfl, hs, e, rl, hp, q⟩ := h
  obtain ⟨u, rfl, ru⟩ := vals1 r
  obtain rfl : u = Value.ref a := ru
  obtain ⟨T, its, hT, rv, ps, hz⟩ : ∃ (T : String) (its : List Value), (T = "list" ∨ T = "tuple") ∧ Vals ws its ∧ PySem.PlainSeq T s.heap a its.toArray ∧ ws.length ≤ sizeLine := by
    rcases hs with hs | hs
    · obtain ⟨its, h1, h2, h3⟩ := plainL I hs
      exact ⟨_, its, .inl rfl, h1, h2, h3⟩
    · obtain ⟨its, h1, h2, h3⟩ := plainT I hs
      exact ⟨_, its, .inr rfl, h1, h2, h3⟩
  obtain ⟨as, pr, gs, rs, e1, e2, e3, e4, e5, e6, e7⟩ := pairs_get I e rl hp rv
  have hlen : as.length = ws.length := by rw [rv.length, e1, List.length_map]
  have hm : (s.heap.objs.size == sysModules) = false := beq_eq_false_iff_ne.mpr (Nat.ne_of_gt I.big)
  have items : PySem.PairItems s.heap its.toArray (fun j => as.getD j 0) pr := by
    refine ⟨by rw [List.size_toArray, e1, List.length_map, e2], fun j k v z => ?_⟩
    obtain ⟨b, h1, h2⟩ := e6 j k v z
    have hb : as.getD j 0 = b := by rw [List.getD_eq_getElem?_getD, h1]; rfl
    show its.toArray[j]? = some (Value.ref (as.getD j 0)) ∧ PySem.PairAt s.heap (as.getD j 0) k v
    rw [hb]
    refine ⟨?_, .inl h2⟩
    rw [e1]
    simp [h1]
  have have' : PySem.PairsHave (mixKind X.prog X.w) pr.length (PySem.PairRel pr) rs := ⟨by rw [e3, e2], fun j k v z => e7 j k v z⟩
  have fin : ∀ h' tk, h'.DictOf (mixKind X.prog X.w) s.heap.objs.size (merged [] rs) → (∀ b o, b ∉ ([] : List Addr) → s.heap.get? b = some o → h'.get? b = some o) → EP X pins σ Q (.ref s.heap.objs.size) { s with heap := h', toks := tk } := fun h' tk hd k => by
    have hl : (mergeK [] gs).length ≤ sizeLine := by
      refine Nat.le_trans (length_mergeK gs []) ?_
      rw [List.length_nil, Nat.zero_add, e4.length, e3, hlen]
      exact hz
    exact ⟨.ref s.heap.objs.size, upd H s.heap.objs.size (.dK (mergeK [] gs)), I.laid (t' := tk) (fun b o z => k b o (by simp) z) (Nat.le_refl _) (show ObjOk X.prog X.w _ _ _ (.dK (mergeK [] gs)) from ⟨hl, hm, merged [] rs, KV.merge e4 .nil, hd⟩), rfl, q _ _ (I.hok.fresh (Nat.le_refl _)) (repK_merge e5 .nil)⟩
  rcases hT with rfl | rfl
  · exact PySem.call_dict_pairs (PySem.PairArg.list a its.toArray (fun j => as.getD j 0) pr) (I.ok.hd hc) ⟨ps, items⟩ have' (by rw [e2, hlen]; exact hz) fin
  · exact PySem.call_dict_pairs (PySem.PairArg.tuple a its.toArray (fun j => as.getD j 0) pr) (I.ok.hd hc) ⟨ps, items⟩ have' (by rw [e2, hlen]; exact hz) fin
def pDict : List PV → Option PV
  | [.lst xs] => (pairsP xs).map fun kvs => .dct (mergeP [] kvs)
  | [.tup xs] => (pairsP xs).map fun kvs => .dct (mergeP [] kvs)
  | _ => none
theorem cs_dict : CallSF X.K cl (rDictOf X.K cl) pDict := by
  intro G H vs xs z Q e rl hz k
  unfold pDict at hz
  split at hz <;> try (cases hz; done)
  all_goals
    rename_i ys
    cases hp : pairsP ys with
    | none => rw [hp] at hz; cases hz
    | some kvs => ?_
  all_goals
    rw [hp] at hz
    cases hz
    obtain ⟨v, rfl, rv⟩ := repL1 rl
  · cases rv with
    | lst hs hl hr => exact ⟨_, _, G, _, kvs, rfl, .inl (SqL.of (e _ _ hs)), e, hr, hp, fun p gs hn rg => k p _ hn ⟨gs, upd_same, rg⟩⟩
  · cases rv with
    | tup hs hl hr => exact ⟨_, _, G, _, kvs, rfl, .inr (hs.mono e), e, hr, hp, fun p gs hn rg => k p _ hn ⟨gs, upd_same, rg⟩⟩
end
end Kp
set_option Elab.async false
set_option linter.all false
set_option maxRecDepth 100000
set_option maxHeartbeats 2000000
namespace Kp
open PySem PyProof.Rows L2

theorem key_rel {P : Program} {w : World} {k : Key} {v : Value} (h : (mixKind P w).is k v = true) : RelV (kV k) v := by
  cases k with
  | inl i =>
    obtain ⟨t, e⟩ := Value.isInt_shape (k := i) (v := v) h
    exact ⟨t, e⟩
  | inr x =>
    obtain ⟨t, e⟩ := Value.isStrOf_shape (x := x) (v := v) h
    exact ⟨t, e⟩
/-! ### sorted(d) -/
def keyFit : PV → Bool
  | .str x => decide (x.length ≤ sizeLine)
  | _ => true
def pSortedD : List PV → Option PV
  | [.dct kvs] => if sortOk (kvs.map (·.1)) = true ∧ (kvs.map (·.1)).all keyFit = true then some (.lst (sortP (kvs.map (·.1)))) else none
  | _ => none
section
variable {X : Cx} {cl : Nat → Addr}
def keyPair (K : PySem.W.Frag) (kv : Key × V) : V × PV := (kV kv.1, keyPV kv.1)
theorem repK_keys {K : PySem.W.Frag} {H : Hp} : ∀ {gs : List (Key × V)} {kvs : List (PV × PV)}, RepK K cl H gs kvs → kvs.map (·.1) = gs.map fun g => keyPV g.1
  | _, _, .nil => rfl
  | _, _, .cons _ rs => by rw [List.map_cons, List.map_cons, repK_keys rs]
theorem keys_each {hp : Heap} : ∀ {gs : List (Key × V)} {us : List Value}, us.length = gs.length → (∀ (j : Nat) (v : Value), us[j]? = some v → ∃ g, gs[j]? = some g ∧ RelV (kV g.1) v) → (gs.map fun g => keyPV g.1).all keyFit = true →
    PySem.W.EachIs (fun u (p : V × PV) => RelV p.1 u ∧ ∀ (cl : Nat → Addr) (G : Hp), Rep X.K cl G p.1 p.2) us (gs.map fun g => (kV g.1, keyPV g.1)) ∧ PySem.W.EachIs (fun u (p : V × PV) => ∃ as, PySem.Reads hp u (PV.dat p.2) as) us (gs.map fun g => (kV g.1, keyPV g.1))
  | [], [], _, _, _ => ⟨.nil, .nil⟩
  | [], _ :: _, hl, _, _ => by cases hl
  | _ :: _, [], hl, _, _ => by cases hl
  | g :: gs, u :: us, hl, h, hf => by
    rw [List.map_cons, List.all_cons, Bool.and_eq_true] at hf
    obtain ⟨i1, i2⟩ := keys_each (hp := hp) (gs := gs) (us := us) (by simpa using hl) (fun j v e => by simpa using h (j + 1) v (by simpa using e)) hf.2
    obtain ⟨g', eg, rg⟩ := h 0 u rfl
    have eg' : g = g' := by simpa using eg
    subst eg'
    have hr : (∀ (cl : Nat → Addr) (G : Hp), Rep X.K cl G (kV g.1) (keyPV g.1)) ∧ ∃ as, PySem.Reads hp u (PV.dat (keyPV g.1)) as := by
      obtain ⟨kk, w⟩ := g
      cases kk with
      | inl i =>
        obtain ⟨t, e⟩ := (show ∃ t, u = Value.int i t from rg)
        subst e
        exact ⟨fun _ _ => .int i, [], .int _ _⟩
      | inr x =>
        obtain ⟨t, e⟩ := (show ∃ t, u = Value.str x t from rg)
        subst e
        exact ⟨fun _ _ => .str x (of_decide_eq_true hf.1), [], .str _ _⟩
    exact ⟨.cons ⟨rg, hr.1⟩ i1, .cons hr.2 i2⟩
def rSortedK (K : PySem.W.Frag) : List V → Hp → VK → Prop := fun vs H Q => ∃ (a : Addr) (gs : List (Key × V)) (xs : List PV), vs = [.ref a] ∧ H a = some (.dK gs) ∧ xs = gs.map (fun g => keyPV g.1) ∧ sortOk xs = true ∧ xs.all keyFit = true ∧
  ∀ (p : Addr) (ys : List V), H p = none → ys.length ≤ sizeLine → (∀ (cl : Nat → Addr) (G : Hp), RepL K cl G ys (sortP xs)) → Q (.ref p) (upd H p (.lst ys))
theorem cr_sortedK (hc : X.calm = true) (hu : X.A.units + 64 < cLine) : CallR X (.builtin "sorted") (rSortedK X.K) := by
  intro pins s σ H vs us Q I r h
  obtain ⟨a, gs, xs, rfl, ha, ex, ok, hf, q⟩ := h
  obtain ⟨u, rfl, ru⟩ := vals1 r
  obtain rfl : u = Value.ref a := ru
  simp only [sortOk, Bool.and_eq_true, decide_eq_true_eq] at ok
  obtain ⟨⟨⟨⟨o1, o2⟩, o3⟩, o4⟩, o5⟩ := ok
  obtain ⟨z, lo, vs0, rel, dd⟩ := dk_of I.hok ha
  obtain ⟨ep, hat⟩ := dd.dictAt
  have hen : (gs.map fun g => ((kV g.1, keyPV g.1) : V × PV)).map (fun p : V × PV => PV.dat p.2) = xs.map PV.dat := by
    rw [ex, List.map_map, List.map_map]
    rfl
  have hsnd : (gs.map fun g => ((kV g.1, keyPV g.1) : V × PV)).map (·.2) = xs := by
    rw [ex, List.map_map]
    rfl
  have hl0 : vs0.length = gs.length := rel.length.symm
  refine sorted_by (C := fun cs => cs = gs.map fun g => ((kV g.1, keyPV g.1) : V × PV)) (enc := fun p : V × PV => PV.dat p.2) (R := fun u (p : V × PV) => RelV p.1 u ∧ ∀ (cl : Nat → Addr) (G : Hp), Rep X.K cl G p.1 p.2) (fun P hP => ?_) (fun cs hcs => ?_) fun out h1 h2 tk p n2 cs k1 hp k2 hat2 hcs eo => ?_
  · refine PySem.W.kdu_collect (A := X.A.in1) (PySem.W.kdl_dict (knd := mixKind X.prog X.w) (kvs := vs0) (ep := ep) lo) (I.ok.hd hc) hat (by rw [hl0]; exact z) fun h' tk acc hk hacc => ?_
    have hlen : acc.toList.length = gs.length := by rw [Array.length_toList, hacc.1, hl0]
    have hi : ∀ (j : Nat) (v : Value), acc.toList[j]? = some v → ∃ g, gs[j]? = some g ∧ RelV (kV g.1) v := fun j v e => by
      obtain ⟨k, x, e1, e2⟩ := hacc.2 j v (by rw [← Array.getElem?_toList]; exact e)
      have e3 : (vs0.map (·.1))[j]? = some k := by rw [List.getElem?_map, e1]; rfl
      rw [← rel.keys, List.getElem?_map] at e3
      cases eg : gs[j]? with
      | none => rw [eg] at e3; cases e3
      | some g =>
        rw [eg] at e3
        have e4 : g.1 = k := Option.some.inj e3
        subst e4
        exact ⟨g, rfl, key_rel e2⟩
    have hf' : (gs.map fun g => keyPV g.1).all keyFit = true := by rw [← ex]; exact hf
    obtain ⟨g1, g2⟩ := keys_each (X := X) (hp := h') hlen hi hf'
    exact hP _ h' tk _ hk g1 g2 rfl
  · subst hcs
    refine ⟨by rw [hen]; exact allAlike_of o2, by rw [hen]; exact sortable_of o1 o3, by rw [List.length_map]; exact z, fun b hb => ?_⟩
    have hx : b.2 ∈ xs := by
      rw [← hsnd]
      exact List.mem_map.mpr ⟨b, hb, rfl⟩
    have := of_decide_eq_true (List.all_eq_true.mp o5 b.2 hx)
    omega
  · subst hcs
    have I1 : Inv X pins σ H { s with heap := h1, toks := tk } := I.kept k1
    have v1 := (each_vals (X := X) (cl := fun _ => 0) (G := H) (eo.mono fun _ _ q => ⟨q.1, q.2 _ _⟩)).1
    have v2 : ∀ (cl : Nat → Addr) (G : Hp), RepL X.K cl G (((gs.map fun g => ((kV g.1, keyPV g.1) : V × PV)).mergeSort (PySem.W.dataLe false fun p : V × PV => PV.dat p.2)).map (·.1)) (sortP xs) := fun cl G => by
      have := (each_vals (X := X) (cl := cl) (G := G) (eo.mono fun _ _ q => ⟨q.1, q.2 _ _⟩)).2
      rw [sort_snd, hsnd] at this
      exact this
    have hlen : (((gs.map fun g => ((kV g.1, keyPV g.1) : V × PV)).mergeSort (PySem.W.dataLe false fun p : V × PV => PV.dat p.2)).map (·.1)).length ≤ sizeLine := by
      rw [List.length_map, List.length_mergeSort, List.length_map]
      exact z
    exact ⟨.ref p, upd H p (.lst _), I1.laid (t' := tk) k2 hp ⟨hlen, out, n2, v1, hat2⟩, rfl, q p _ (I1.hok.fresh hp) hlen v2⟩
theorem cs_sortedK : CallSF X.K cl (rSortedK X.K) pSortedD := by
  intro G H vs xs z Q e rl hz k
  unfold pSortedD at hz
  split at hz <;> try (cases hz; done)
  split at hz <;> try (cases hz; done)
  rename_i kvs c
  cases hz
  obtain ⟨v, rfl, rv⟩ := repL1 rl
  cases rv with
  | dct hs hr =>
    have ek := repK_keys hr
    refine ⟨_, _, _, rfl, e _ _ hs, rfl, by rw [← ek]; exact c.1, by rw [← ek]; exact c.2, fun p ys hn hy ry => k p _ hn ⟨ys, upd_same, hy, ?_⟩⟩
    rw [ek]
    exact ry cl G
end
end Kp
set_option Elab.async false
set_option linter.all false
set_option maxRecDepth 100000
set_option maxHeartbeats 2000000
namespace Kp
open PySem PyProof.Rows L2

section
variable {X : Cx} {cl : Nat → Addr} {W : WX} {pos : Pos}
def orL (g g' : List PV → Option PV) : List PV → Option PV := fun xs => match g xs with
  | some z => some z
  | none => g' xs
theorem CallSF.or {r r' : List V → Hp → VK → Prop} {g g' : List PV → Option PV} (h : CallSF X.K cl r g) (h' : CallSF X.K cl r' g') : CallSF X.K cl (fun xs H Q => r xs H Q ∨ r' xs H Q) (orL g g') := by
  intro G H vs xs z Q e rl hz k
  unfold orL at hz
  split at hz
  · rename_i z' ez
    cases hz
    exact .inl (h G H vs xs _ Q e rl ez k)
  · exact .inr (h' G H vs xs z Q e rl hz k)
def pSortedX : List PV → Option PV := orL pSorted pSortedD
theorem cr_sortedX (hc : X.calm = true) (hu : X.A.units + 64 < cLine) : CallR X (.builtin "sorted") (fun xs H Q => rSortedA X.K cl xs H Q ∨ rSortedK X.K xs H Q) := (cr_sortedA hu).or (cr_sortedK hc hu)
theorem cs_sortedX : CallSF X.K cl (fun xs H Q => rSortedA X.K cl xs H Q ∨ rSortedK X.K xs H Q) pSortedX := cs_sortedA.or cs_sortedK

/-! ### d.get(k, x) -/
def pGet (x k d : PV) : Option PV := match x with
  | .dct kvs => if (isKey k).isSome = true then some ((dGet kvs k).getD d) else none
  | _ => none
def isDct : PV → Bool
  | .dct _ => true
  | _ => false
def mGet2 (mo mk md : M PV) : M PV := bnd mo fun x => if isDct x = true then bnd mk fun k => bnd md fun d => lift (pGet x k d) else fun _ => none
theorem em_get2 {o e f : Expr} {apos : Pos} {mo mk md : M PV} (hu : X.A.units + 64 < cLine) (ho : EM X cl W o mo) (hk : EM X cl W e mk) (hd : EM X cl W f md) (m : M2 X o "get" apos e f pos := by exact ⟨rfl, rfl, rfl, rfl⟩) :
    EM X cl W (.Call (.Attribute o "get" apos) [e, f] [] pos) (mGet2 mo mk md) := by
  obtain ⟨to, po, do_⟩ := ho
  obtain ⟨tk, pk', dk⟩ := hk
  obtain ⟨td, pd, dd⟩ := hd
  refine ⟨_, pe_dget2 (by omega) po pk' pd m, fun F G H σ S rr Q st hm hp => ?_⟩
  refine do_.step (R2 := RV X.K cl) st hm hp fun x S1 v G1 H1 hm1 s1 st1 rv hp1 => ?_
  cases x <;> try (cases hm1; done)
  rename_i kvs
  rw [show isDct (.dct kvs) = true from rfl, if_pos rfl] at hm1
  obtain ⟨a, gs, ea, eg, rk⟩ : ∃ a gs, v = .ref a ∧ G1 a = some (.dK gs) ∧ RepK X.K cl G1 gs kvs := by
    cases rv with
    | dct h1 h2 => exact ⟨_, _, rfl, h1, h2⟩
  subst ea
  refine ⟨a, rfl, .inl ⟨gs, .inl (st1.ex _ _ eg)⟩, ?_⟩
  refine dk.step (R2 := RV X.K cl) st1 hm1 hp1 fun k S2 u G2 H2 hm2 s2 st2 ru hp2 => ?_
  refine dd.step (R2 := RV X.K cl) st2 hm2 hp2 fun d S3 w G3 H3 hm3 s3 st3 rd hp3 => ?_
  obtain ⟨z, ez, rfl⟩ := lift_eq hm3
  unfold pGet at ez
  dsimp only at ez
  split at ez <;> try (cases ez; done)
  rename_i hk
  cases ez
  obtain ⟨kk, ek⟩ := Option.isSome_iff_exists.mp hk
  obtain rfl := isKey_some ek
  obtain rfl := rep_key ru
  have s13 : Same G1 G3 := s2.trans s3
  have rk' := rk.mono s13
  refine ⟨valV gs kk, DGet.k (st3.ex _ _ (s13 _ _ eg)), hp3 _ _ _ (Same.refl _) st3 ?_⟩
  cases q : dGet kvs (keyPV kk) with
  | none =>
    rw [rk'.get.2 q]
    exact rd
  | some z =>
    obtain ⟨v', ev, rv'⟩ := rk'.get.1 _ q
    rw [ev]
    exact rv'
/-! ### d.setdefault(k, x), d an own dict -/
def mSetd (i : Nat) (mk md : M PV) : M PV := fun S => if isOT "dict" i S = true then bnd mk (fun k => bnd md fun d => updR i fun x => match x with
  | .dct kvs => if (isKey k).isSome = true ∧ kvs.length < sizeLine then (match dGet kvs k with
      | some z => some (.dct kvs, z)
      | none => some (.dct (dPut kvs k d), d)) else none
  | _ => none) S else none
theorem em_setd {o e f : Expr} {apos : Pos} {i : Nat} {mk md : M PV} (ho : PE X o (tVar i)) (hk : EM X cl W e mk) (hd : EM X cl W f md) (m : M2 X o "setdefault" apos e f pos := by exact ⟨rfl, rfl, rfl, rfl⟩) :
    EM X cl W (.Call (.Attribute o "setdefault" apos) [e, f] [] pos) (mSetd i mk md) := by
  obtain ⟨tk, pk', dk⟩ := hk
  obtain ⟨td, pd, dd⟩ := hd
  refine ⟨_, pe_dsetd ho pk' pd m, fun F G H σ S rr Q st hm hp => ?_⟩
  unfold mSetd at hm
  split at hm <;> try (cases hm; done)
  rename_i hT
  obtain ⟨a, ea, ty⟩ := isOT_ty st hT
  have hD : IsD H a := by
    rcases ty with ⟨h, _⟩ | ⟨h, _⟩ | ⟨h, ⟨kvs, q⟩ | ⟨kvs, q⟩⟩ | ⟨h, _⟩
    · exact absurd h (by decide)
    · exact absurd h (by decide)
    · exact .inl ⟨kvs, .inl q⟩
    · exact .inr ⟨kvs, .inl q⟩
    · exact absurd h (by decide)
  refine ⟨_, ea, a, rfl, hD, ?_⟩
  refine dk.step (R2 := RV X.K cl) st hm hp fun k S2 u G2 H2 hm2 s2 st2 ru hp2 => ?_
  refine dd.step (R2 := RV X.K cl) st2 hm2 hp2 fun d S3 w G3 H3 hm3 s3 st3 rd hp3 => ?_
  obtain ⟨a', x, x', z, S', e5, ea', ga, q, ef, fin⟩ := updR_use st3 hm3
  rw [ea] at ea'
  cases ea'
  cases x <;> try (cases ef; done)
  rename_i kvs
  dsimp only at ef
  split at ef <;> try (cases ef; done)
  rename_i c
  obtain ⟨hkk, hlen⟩ := c
  obtain ⟨kk, ek⟩ := Option.isSome_iff_exists.mp hkk
  obtain rfl := isKey_some ek
  obtain rfl := rep_key (ru.mono s3)
  obtain ⟨gs, eh, rk⟩ := q
  refine ⟨gs, kk, eh, rfl, by rw [rk.length]; exact hlen, fun v hv => ?_, fun hv => ?_⟩
  · split at ef
    · rename_i z' ez
      cases ef
      subst e5
      obtain ⟨v', ev, rv'⟩ := rk.get.1 _ ez
      rw [hv] at ev
      cases ev
      have st4 := fin (.dK gs) ⟨gs, upd_same, rk⟩
      have eH : upd H3 a (.dK gs) = H3 := by
        funext b
        by_cases e1 : b = a
        · rw [e1, upd_same, eh]
        · rw [upd_ne e1]
      rw [eH] at st4
      exact hp3 _ G3 H3 (Same.refl _) st4 rv'
    · rename_i ez
      rw [rk.get.2 ez] at hv
      cases hv
  · split at ef
    · rename_i z' ez
      obtain ⟨v', ev, rv'⟩ := rk.get.1 _ ez
      rw [hv] at ev
      cases ev
    · rename_i ez
      cases ef
      subst e5
      exact hp3 _ G3 _ (Same.refl _) (fin _ ⟨_, upd_same, rk.put rd⟩) rd
/-! ### s.join(xs) -/
def strsP : List PV → Option (List Str)
  | [] => some []
  | .str x :: xs => (strsP xs).map (x :: ·)
  | _ => none
theorem strs_rep {K : PySem.W.Frag} {H : Hp} : ∀ {xs : List PV} {ns : List Str} {vs : List V}, strsP xs = some ns → RepL K cl H vs xs → vs = ns.map V.str
  | [], ns, vs, h, r => by cases h; cases r; rfl
  | x :: xs, ns, vs, h, r => by
    cases x <;> try (cases h; done)
    unfold strsP at h
    cases e : strsP xs with
    | none => rw [e] at h; cases h
    | some ms =>
      rw [e] at h
      cases h
      cases r with
      | cons rv rs =>
        cases rv
        rw [strs_rep e rs]
        rfl
def itemsP : PV → Option (List PV)
  | .lst xs => some xs
  | .tup xs => some xs
  | _ => none
def pJoin (x y : PV) : Option PV := match x with
  | .str a => match (itemsP y).bind strsP with
    | some ys => if (ys.map (·.length)).sum + ys.length * a.length ≤ 16777216 ∧ (Txt.join a ys).length ≤ sizeLine then some (.str (Txt.join a ys)) else none
    | none => none
  | _ => none
/-- a method of a text with one argument -/
def isStr : PV → Bool
  | .str _ => true
  | _ => false
def mBinS (g : PV → PV → Option PV) (mo me : M PV) : M PV := bnd mo fun x => if isStr x = true then bnd me fun y => lift (g x y) else fun _ => none
theorem em_m1 {id : String} {name : Str} {o e : Expr} {apos : Pos} {r : V → List V → Hp → VK → Prop} {g : PV → PV → Option PV} {mo me : M PV} (slot : Slot "str" name id) (ty : typeOf (.builtin id) = pure (.type "method_descriptor")) (rule : MtR X id r) (hr : BinS X.K cl (fun x y H Q => r x [y] H Q) g) (ho : EM X cl W o mo) (he : EM X cl W e me)
    (hs : starEach [e] X.env = [(false, eval e X.env)] := by rfl) (hbase : attributeBase o name X.env (eval o X.env) = eval o X.env := by rfl) (hline : (apos.endLine == pos.line) = true := by rfl) :
    EM X cl W (.Call (.Attribute o name apos) [e] [] pos) (mBinS g mo me) := by
  obtain ⟨to, po, do_⟩ := ho
  obtain ⟨te, pe, de⟩ := he
  refine ⟨_, pe_m1 slot ty rule po pe hs hbase hline, fun F G H σ S rr Q st hm hp => ?_⟩
  refine do_.step (R2 := RV X.K cl) st hm hp fun x S1 v G1 H1 hm1 s1 st1 rv hp1 => ?_
  cases x <;> try (cases hm1; done)
  rename_i z
  rw [show isStr (.str z) = true from rfl, if_pos rfl] at hm1
  have ev : v = .str z := by cases rv; rfl
  refine ⟨⟨z, ev⟩, ?_⟩
  refine de.step (R2 := RV X.K cl) st1 hm1 hp1 fun y S2 u G2 H2 hm2 s2 st2 ru hp2 => ?_
  obtain ⟨w, ew, rfl⟩ := lift_eq hm2
  exact hr G2 H2 v u _ y w Q st2.ex (rv.mono s2) ru ew fun w' H' q => hp2.res1 st2 q
/-- .. without one -/
def mUnS (g : PV → Option PV) (mo : M PV) : M PV := bnd mo fun x => if isStr x = true then lift (g x) else fun _ => none
theorem bs_join : BinS X.K cl (fun x y H Q => ∃ a p, ∃ ys : List Str, x = .str a ∧ [y] = [V.ref p] ∧ (SqL X.K H p (ys.map V.str) ∨ SqT X.K H p (ys.map V.str)) ∧
    (ys.map (·.length)).sum + ys.length * a.length ≤ 16777216 ∧ Q (.str (Txt.join a ys)) H) pJoin := by
  intro G H v u x y z Q e rv ru hz k
  unfold pJoin at hz
  cases x <;> try (cases hz; done)
  dsimp only at hz
  split at hz <;> try (cases hz; done)
  rename_i ys eys
  split at hz <;> try (cases hz; done)
  rename_i c
  cases hz
  cases rv with
  | str a hla =>
    cases y <;> try (cases eys; done)
    · rename_i xs
      have e1 : strsP xs = some ys := eys
      cases ru with
      | tup hs hl hr => exact ⟨_, _, ys, rfl, rfl, .inr (by rw [← strs_rep e1 hr]; exact sqt_mono e hs), c.1, k _ _ (.inl ⟨rfl, .str _ c.2⟩)⟩
    · rename_i xs
      have e1 : strsP xs = some ys := eys
      cases ru with
      | lst hs hl hr => exact ⟨_, _, ys, rfl, rfl, .inl (by rw [← strs_rep e1 hr]; exact SqL.of (e _ _ hs)), c.1, k _ _ (.inl ⟨rfl, .str _ c.2⟩)⟩
theorem em_join {o e : Expr} {apos : Pos} {mo me : M PV} (ho : EM X cl W o mo) (he : EM X cl W e me) (hs : starEach [e] X.env = [(false, eval e X.env)] := by rfl) (hbase : attributeBase o "join" X.env (eval o X.env) = eval o X.env := by rfl) (hline : (apos.endLine == pos.line) = true := by rfl) :
    EM X cl W (.Call (.Attribute o "join" apos) [e] [] pos) (mBinS pJoin mo me) := em_m1 PySem.F.slot_str_join PySem.F.type_str_join mt_join bs_join ho he hs hbase hline
end
end Kp
set_option Elab.async false
set_option linter.all false
set_option maxRecDepth 100000
set_option maxHeartbeats 2000000
namespace Kp
open PySem PyProof.Rows L2 ClX

/-! ### defs with defaults -/
section
variable {P : Program} {w : World} {K : PySem.W.Frag} {mg : Str → Option Value} {base : Heap} {cl : Nat → Addr}
theorem fnPD {x qual : Str} {st : Stmt} {dvs : List V} {f : Addr} {fd : FuncData} {N ps : List Str} {k : Nat} {m : M Fl} (F : FunD K x qual (defArgs st) (defBody st) (defScope st) dvs [] f fd) (S : FnScope N ps (defScope st))
    (hb : ∀ (cdv : Value) (A : Around) (outer : List Env) (s : Shared) (H : Hp) (E : XK), Room k (A.deeper (envOfC qual (defScope st) s.heap.objs.size f cdv)) →
      SMs (cxOf (L2N.CX P w) P w K mg base N qual (defScope st) f cdv A outer s H E) cl (fun c d _ H' => E c d H') (defBody st) m) :
    FnOk P w K mg base (L2N.CX P w) (k + 1) f fd ps (spP K cl ps.length (runP N.length m)) := by
  have hps : ps.length ≤ N.length := by
    have := congrArg List.length S.pre
    rw [List.length_take] at this
    omega
  refine F.ok S (fun vs H Q E h => h.1) fun cdv A outer s H vs Q E hr hsp => ?_
  obtain ⟨t, pt, dt⟩ := hb cdv A outer s H E hr
  obtain ⟨hl, G, xs, r, e, rl, hf, hq⟩ := hsp
  refine ⟨t, pt, ?_⟩
  have st0 := stOk_startP (N := N) e rl (by rw [hl]; exact hps)
  unfold runP endP at hf
  have gr : ∀ {G' H' : Hp} {σ' : L2.St} {S' : Sto}, Same G G' → StOk K cl ⟨G, H, fun _ => none, fun _ => none⟩ G' H' σ' S' → Grown G H G' H' := fun {G' H' σ' S'} s k => ⟨s, k.ex, fun a o h => k.frame a o h (fun i z => by cases z), k.gnew⟩
  split at hf
  · rename_i S' em
    cases hf
    exact dt _ G H _ _ _ _ st0 em fun σ' G' H' s' k' => hq .non G' H' (gr s' k') .non
  · rename_i y S' em
    cases hf
    exact dt _ G H _ _ _ _ st0 em fun v σ' G' H' s' k' r' => hq v G' H' (gr s' k') r'
  · rename_i c fs S' em
    cases hf
    exact dt _ G H _ _ _ _ st0 em fun d gs σ' G' H' s' k' a b => hq d gs G' H' (gr s' k') ⟨a.1, a.2.1⟩ b
  · cases hf
theorem fnID {x qual : Str} {st : Stmt} {dvs : List V} {f : Addr} {fd : FuncData} {N ps : List Str} {k : Nat} {m : M Fl} (F : FunD K x qual (defArgs st) (defBody st) (defScope st) dvs [] f fd) (S : FnScope N ps (defScope st))
    (hb : ∀ (cdv : Value) (A : Around) (outer : List Env) (s : Shared) (H : Hp) (E : XK), Room k (A.deeper (envOfC qual (defScope st) s.heap.objs.size f cdv)) →
      SMs (cxOf (L2N.CX P w) P w K mg base N qual (defScope st) f cdv A outer s H E) cl (fun c d _ H' => E c d H') (defBody st) m) :
    FnOk P w K mg base (L2N.CX P w) (k + 1) f fd ps (spI K cl ps.length (runI N.length m)) := by
  have hps : ps.length ≤ N.length := by
    have := congrArg List.length S.pre
    rw [List.length_take] at this
    omega
  refine F.ok S (fun vs H Q E h => h.1) fun cdv A outer s H vs Q E hr hsp => ?_
  obtain ⟨t, pt, dt⟩ := hb cdv A outer s H E hr
  obtain ⟨hl, a, ws, G, x, x', xs, r, rfl, e, ga, ho, rl, hf, hq⟩ := hsp
  refine ⟨t, pt, ?_⟩
  have st0 := stOk_startI (N := N) e ga ho rl (by rw [List.length_cons] at hl; omega)
  unfold runI endI at hf
  have gr : ∀ {G' H' : Hp} {σ' : L2.St} {S' : Sto} {y : PV}, Same G G' → StOk K cl ⟨G, H, fun i => if i = 0 then some a else none, fun _ => none⟩ G' H' σ' (some (.i y) :: S') → GrownI a G H G' H' ∧ OwnAt K cl G' H' a y := fun {G' H' σ' S' y} s k => by
    refine ⟨⟨s, k.ex, fun b o n h => k.frame b o h (fun i z => ?_), k.gnew⟩, ?_⟩
    · dsimp only at z
      split at z
      · cases z; exact n rfl
      · cases z
    · obtain ⟨b, _, _, e1, q⟩ := k.inn 0 y rfl
      have e1' : some a = some b := e1
      cases e1'
      exact q
  split at hf
  · rename_i x1 S' em
    cases hf
    exact dt _ G H _ _ _ _ st0 em fun σ' G' H' s' k' => hq .non G' H' (gr s' k').1 (gr s' k').2 .non
  · rename_i y x1 S' em
    cases hf
    exact dt _ G H _ _ _ _ st0 em fun v σ' G' H' s' k' r' => hq v G' H' (gr s' k').1 (gr s' k').2 r'
  · rename_i c fs x1 S' em
    cases hf
    exact dt _ G H _ _ _ _ st0 em fun d gs σ' G' H' s' k' a b => hq d gs G' H' (gr s' k').1 (gr s' k').2 ⟨a.1, a.2.1⟩ b
  · cases hf
end

section
variable {X : Cx} {cl : Nat → Addr} {W : WX} {pos : Pos}
/-! ### C(), all by default -/
def tMake0 (C : Addr) (sp : Sp) (E : L2.St → XK) (dvs : List V) : TE := fun σ H Q => ∀ x dx, H x = none → H dx = none → dx ≠ x →
  sp (.ref x :: dvs) (upd (upd H dx (.own x)) x (.ins C dx [])) (fun v H2 => v = .non ∧ Q (.ref x) H2) (E σ)
theorem run_makeD {k : Nat} {f C : Addr} {fd : FuncData} {ps : List Str} {sp : Sp} {E : L2.St → XK} {CX : CXT} {pins : List (Addr × Obj)} {σ : L2.St} {H : Hp} {s : Shared} {Q : VK} {us ds : List Value} {vs dvs : List V} (M : Mk X.K C f) (F : FnOk X.prog X.w X.K X.mg X.base CX k f fd ps sp) (hr : Room (k + 1) X.A) (hb : Binds X.K fd ps ds) (hd : Vals dvs ds)
    (hx : PassesAt CX X σ (E σ)) (I : Inv X pins σ H s) (r : Vals vs us)
    (h : ∀ x dx, H x = none → H dx = none → dx ≠ x → sp (.ref x :: (vs ++ dvs)) (upd (upd H dx (.own x)) x (.ins C dx [])) (fun v H2 => v = .non ∧ Q (.ref x) H2) (E σ)) :
    wpAny (model X.prog X.w) X.A (call (.ref C) us) (EP X pins σ Q) X.xe s := by
  let a : Addr := s.heap.objs.size + 1
  have hq := h a s.heap.objs.size (I.hok.fresh (Nat.le_succ _)) (I.hok.fresh (Nat.le_refl _)) (Nat.ne_of_lt (Nat.lt_succ_self _))
  have I2 := Inv.made (C := C) I
  have r2 : Vals (V.ref a :: (vs ++ dvs)) ((Value.ref a :: us) ++ ds) := .cons rfl (r.append hd)
  have hl : ((Value.ref a :: us) ++ ds).length = ps.length := by
    have e := r2.length
    rw [F.len _ _ _ _ hq] at e
    exact e.symm
  have hb2 := hb _ (Value.ref a :: us) I2.kIn hl
  refine wpAny_call (make_map (f := f) I.kIn M.makes M.init (beq_iff_eq.mp M.fn) (codeAny_mono (F.run _ X.stack _ _ ⟨Value.ref a :: us, []⟩ ((Value.ref a :: us) ++ ds) _ _ (E σ) (hr.make C us [])
    (I2.env0.make C us []) hb2 r2 hq) fun r s' hq' => ?_))
  cases r with
  | error e => exact hx pins _ _ e s' I2 hq'
  | ok fl =>
    cases fl with
    | ret u =>
      obtain ⟨v, H', I3, rv, ev, q3⟩ := I2.after hq'
      subst ev
      exact ⟨rv, ⟨V.ref a, H', I3, rfl, q3⟩⟩
    | next => exact False.elim hq'
    | brk => exact False.elim hq'
    | cont => exact False.elim hq'
theorem pe_make0 {x : Str} {k : Nat} {f C : Addr} {fd : FuncData} {ps : List Str} {sp : Sp} {E : L2.St → XK} {CX : CXT} {ds : List Value} {dvs : List V} {p : Pos} (M : Mk X.K C f) (F : FnOk X.prog X.w X.K X.mg X.base CX k f fd ps sp) (hr : Room (k + 1) X.A) (hg : Gl X x) (hm : X.mg x = some (.ref C)) (hb : Binds X.K fd ps ds) (hd : Vals dvs ds) (hx : ∀ σ, PassesAt CX X σ (E σ))
    (hdb : (x == ("__debug__" : Str)) = false := by decide) : PE X (.Call (.Name x p) [] [] pos) (tMake0 C sp E dvs) := by
  refine ⟨fun pins s σ H Q I h => ?_⟩
  refine wpAny_Call_Name_kw (ld_glob I hg hm ?_ hdb)
  exact PySem.W.callWith_K0 (first := []) I.kIn M.kp (run_makeD (vs := []) (us := []) M F hr hb hd (hx σ) I .nil h)
theorem mArgs_const {S : Sto} : ∀ {dps : List PV}, mArgs (dps.map mK) S = some (.ok dps S)
  | [] => rfl
  | y :: ys => by
    show bnd (mK y) (fun x => bnd (mArgs (ys.map mK)) fun xs => ret (x :: xs)) S = _
    unfold bnd mK ret
    simp only []
    have ih := mArgs_const (S := S) (dps := ys)
    unfold mK ret at ih
    rw [ih]
def mMake0 (c : Nat) (f : PV → List PV → Option (PV × RO)) (ds : List PV) : M PV := mkM (fun x => f x ds) c
theorem em_make0 {x : Str} {k c : Nat} {f : Addr} {fd : FuncData} {ps : List Str} {n : Nat} {g : PV → List PV → Option (PV × RO)} {p : Pos} {dvs : List V} {dps : List PV} (tk : L2N.Takes X W) (M : Mk X.K (cl c) f) (F : FnOk X.prog X.w X.K X.mg X.base (L2N.CX X.prog X.w) k f fd ps (spI X.K cl n g)) (hr : Room (k + 1) X.A) (hm : X.mg x = some (.ref (cl c)))
    (hb : ∃ ds, Vals dvs ds ∧ Binds X.K fd ps ds) (hd : ∀ G, RepL X.K cl G dvs dps) (hl : dps.length + 1 = n := by rfl) (hg : Gl X x := by rfl) (hdb : (x == ("__debug__" : Str)) = false := by decide) :
    EM X cl W (.Call (.Name x p) [] [] pos) (mMake0 c g dps) := by
  obtain ⟨ds, hv, hb⟩ := hb
  refine ⟨_, pe_make0 (E := WE W) M F hr hg hm hb hv (fun σ => L2N.passAt tk σ) hdb, ?_⟩
  have dz := does_make (X := X) (cl := cl) (W := W) (c := c) (n := n) (g := g) (t := fun σ H Q => Q dvs H) (ms := dps.map mK) (fun F G H σ S rr Q st hm hp => by
    rw [mArgs_const] at hm
    cases hm
    exact hp _ _ _ (Same.refl _) st (hd G)) (by rw [List.length_map]; exact hl)
  intro F G H σ S rr Q st hm hp
  refine dz F G H σ S rr Q st ?_ hp
  unfold mMake bnd
  rw [mArgs_const]
  exact hm
/-! ### cls(e, ..), cls a name that holds a class -/
theorem pe_makeV {i : Nat} {x : Str} {k : Nat} {f C : Addr} {fd : FuncData} {ps : List Str} {sp : Sp} {E : L2.St → XK} {CX : CXT} {p : Pos} {e : Expr} {es : List Expr} {t : TA} (M : Mk X.K C f) (F : FnOk X.prog X.w X.K X.mg X.base CX k f fd ps sp) (hr : Room (k + 1) X.A) (hv : PE X (.Name x p) (tVar i)) (hb : Binds X.K fd ps []) (hx : ∀ σ, PassesAt CX X σ (E σ))
    (ha : PA X (e :: es) t) (he : starEach (e :: es) X.env = (false, eval e X.env) :: starEach es X.env := by rfl) (hpl : (backTo pos (starEach es X.env)).any (·.1) = false := by rfl) :
    PE X (.Call (.Name x p) (e :: es) [] pos) (fun σ H Q => σ[i]? = some (some (.ref C)) ∧ tMakeS C sp E t σ H Q) := by
  refine ⟨fun pins s σ H Q I h => ?_⟩
  obtain ⟨hs, h⟩ := h
  refine wpAny_Call_Name_kw (thn (hv.run pins s σ H (fun v H1 => v = .ref C ∧ H1 = H) I ⟨.ref C, hs, rfl, rfl⟩) fun u s1 ⟨v, H1, I1, r1, ev, eH⟩ => ?_)
  subst ev
  subst eH
  obtain rfl : u = Value.ref C := r1
  refine PySem.W.callWith_K (h₀ := X.base) I1.ok.mod.kin M.kp (thn (ha.run pos pins s1 σ H1 _ I1 h) fun us s2 ⟨vs, H2, I2, r, q⟩ => ⟨I2.kIn, ?_⟩) he hpl
  exact run_makeS M F hr hb (hx σ) I2 r q
def mMakeV (i c : Nat) (f : PV → List PV → Option (PV × RO)) (ms : List (M PV)) : M PV := fun S => match S[i]? with
  | some (some (.p (.glb d))) => if d = c then mMake c f ms S else none
  | _ => none
theorem em_makeV {i : Nat} {x : Str} {k c : Nat} {f : Addr} {fd : FuncData} {ps : List Str} {n : Nat} {g : PV → List PV → Option (PV × RO)} {p : Pos} {e : Expr} {es : List Expr} {ms : List (M PV)} (tk : L2N.Takes X W) (M : Mk X.K (cl c) f) (F : FnOk X.prog X.w X.K X.mg X.base (L2N.CX X.prog X.w) k f fd ps (spI X.K cl n g)) (hr : Room (k + 1) X.A)
    (hb : Binds X.K fd ps []) (hv : PE X (.Name x p) (tVar i)) (ha : AM X cl W (e :: es) (mArgs ms)) (hl : ms.length + 1 = n := by rfl) (he : starEach (e :: es) X.env = (false, eval e X.env) :: starEach es X.env := by rfl) (hpl : (backTo pos (starEach es X.env)).any (·.1) = false := by rfl) :
    EM X cl W (.Call (.Name x p) (e :: es) [] pos) (mMakeV i c g ms) := by
  obtain ⟨t, pa, da⟩ := ha
  refine ⟨_, pe_makeV (E := WE W) M F hr hv hb (fun σ => L2N.passAt tk σ) pa he hpl, fun F G H σ S rr Q st hm hp => ?_⟩
  unfold mMakeV at hm
  split at hm <;> try (cases hm; done)
  rename_i d e1
  split at hm <;> try (cases hm; done)
  rename_i q
  subst q
  obtain ⟨v, ev, rv⟩ := st.val i _ e1
  cases rv
  exact ⟨ev, does_make da hl F G H σ S rr Q st hm hp⟩
/-! ### C.m(e, ..), m a classmethod that raises nothing -/
theorem passes_EN : Passes (L2N.CX X.prog X.w) X EN := fun pins σ H s e s' I hq => by
  obtain ⟨_, _, _, _, _, _, _, _, _, _, _, _, no⟩ := hq
  exact no.elim
def mCMeth (c : Nat) (f : List PV → Option RO) (ms : List (M PV)) : M PV := bnd (mArgs ms) fun xs => roQ (f (.glb c :: xs))
theorem em_cmeth {k c n : Nat} {g p0 : Addr} {fd : FuncData} {ps : List Str} {h : List PV → Option RO} {x m : Str} {p apos : Pos} {e : Expr} {es : List Expr} {ms : List (M PV)} {mc : Value} {pl : Sem Bool} (hm : X.mg x = some (.ref (cl c))) (r : CRead X.K (cl c) mc) (cm : CMet X.K (cl c) mc m p0 g) (F : FnOk X.prog X.w X.K X.mg X.base (L2N.CX X.prog X.w) k g fd ps (spP X.K cl n h)) (hr : Room k X.A) (hb : Binds X.K fd ps [])
    (ha : AM X cl W (e :: es) (mArgs ms)) (hl : ms.length + 1 = n := by rfl) (hg : Gl X x := by rfl) (hdb : (x == ("__debug__" : Str)) = false := by decide)
    (hst : starEach (e :: es) X.env = (false, eval e X.env) :: starEach es X.env := by rfl) (hpl : (backTo pos (starEach es X.env)).any (·.1) = false := by rfl)
    (ht : eval (.Call (.Attribute (.Name x p) m apos) (e :: es) [] pos) X.env = (do
      let ov ← eval (.Name x p) X.env
      standAt apos.atName
      let (f, first) ← holding [ov] (getMethod ov m pl)
      callWith pos f first (backTo pos (starEach (e :: es) X.env)) (backToKw pos (keywordEach [] X.env))) := by rfl) :
    EM X cl W (.Call (.Attribute (.Name x p) m apos) (e :: es) [] pos) (mCMeth c h ms) := by
  obtain ⟨t, pa, da⟩ := ha
  refine ⟨_, pe_cmeth (pe_glob hg hm (v := .ref (cl c)) rfl hdb) r cm (F.raw hb (ds := []) (dvs := []) .nil) hr passes_EN pa hst hpl ht, fun F G H σ S rr Q st hm1 hp => ?_⟩
  refine ⟨rfl, ?_⟩
  refine da.step' (R2 := RV X.K cl) st hm1 hp fun ys S2 vs G2 H2 e2 hm2 s2 st2 rvs hp2 => ?_
  show spP X.K cl n h ((V.ref (cl c) :: vs) ++ []) H2 Q EN
  rw [List.append_nil]
  obtain ⟨y, ey, rfl⟩ := roQ_some hm2
  exact spP_quiet' st2.ex (.cons (.glb c) rvs) (by rw [List.length_cons, rvs.length, mArgs_len e2]; exact hl) ey fun w G' H' gr r' => hp2 w G' H' gr.g (st2.grown gr) r'
end
end Kp
set_option Elab.async false
set_option linter.all false
set_option maxRecDepth 100000
set_option maxHeartbeats 2000000
namespace Kp
open PySem PyProof.Rows L2

/-! ### an own class, as the head tells it -/
def tyNames : List String := ["NoneType", "bool", "int", "str", "tuple", "list", "dict"]
theorem tyN_mem {x : PV} {t : String} (h : tyN x = some t) : t ∈ tyNames := by
  cases x <;> first | (cases h; decide) | cases h
structure OwnC (K : PySem.W.Frag) (C : Addr) : Prop where
  ins : InsF K C
  ic : (PySem.W.clsIn K C).isSome = true
  ty : PySem.W.typeIn K (.ref C) = some (.type "type")
  sub : ∀ t, t ∈ tyNames → PySem.W.subIn K (.type t) (.ref C) = some false
def ocOf (k : Nat) : Nat → Option Bool := fun c => if c = k then some true else none
theorem kit_self {K : PySem.W.Frag} {v : Value} : PySem.W.kitOne K v v = some true := by
  unfold PySem.W.kitOne
  rw [if_pos (by simp)]
theorem isa_own {K : PySem.W.Frag} {cl : Nat → Addr} {k : Nat} (h : OwnC K (cl k)) : IsaOk K cl (.ref (cl k)) (ansO (ocOf k)) := by
  refine isa_O (fun c b e => ?_) fun x t e => ?_
  · unfold ocOf at e
    split at e
    · rename_i q
      cases e
      rw [q]
      exact ⟨h.ins, kit_self⟩
    · cases e
  · unfold PySem.W.kitOne
    rw [if_neg (by intro z; have := beq_iff_eq.mp z; cases this)]
    have e2 : ((PySem.W.clsIn K (cl k)).isSome && PySem.W.typeIn K (.ref (cl k)) == some (.type "type")) = true := by rw [h.ic, h.ty]; rfl
    show (if ((PySem.W.clsIn K (cl k)).isSome && PySem.W.typeIn K (.ref (cl k)) == some (.type "type")) = true then PySem.W.subIn K (.type t) (.ref (cl k)) else none) = some false
    rw [if_pos e2]
    exact h.sub t (tyN_mem e)
def okEq (k : Nat) : PV → Bool
  | .obj c _ => decide (c = k)
  | x => (tyN x).isSome
theorem eq_own {K : PySem.W.Frag} {cl : Nat → Addr} {k : Nat} (h : OwnC K (cl k)) : ∀ y, okEq k y = true → ∃ t, tyVl cl y = some t ∧ (∀ (G H : Hp) (v : V), Same G H → Rep K cl G v y → TyX K H v t) ∧ PySem.W.notFirst K (cl k) t = true := by
  intro y hy
  by_cases q : ∃ c fs, y = .obj c fs
  · obtain ⟨c, fs, rfl⟩ := q
    have e : c = k := of_decide_eq_true hy
    subst e
    exact ⟨_, rfl, fun G H v e r => tyx_obj e r h.ins, by unfold PySem.W.notFirst; simp⟩
  · have hy' : (tyN y).isSome = true := by
      unfold okEq at hy
      split at hy
      · rename_i c fs
        exact absurd ⟨c, fs, rfl⟩ q
      · exact hy
    obtain ⟨t, et⟩ := Option.isSome_iff_exists.mp hy'
    exact ⟨_, tyVl_data et, fun G H v e r => tyx_rep e r et, by unfold PySem.W.notFirst; rw [h.sub t (tyN_mem et)]; simp⟩
end Kp
set_option Elab.async false
set_option linter.all false
set_option maxRecDepth 100000
set_option maxHeartbeats 2000000
namespace Kp
open PySem PySem.Spec PyProof.Rows L2

/-! ### defs that are called where no repr is under way -/
structure FnG (P : Program) (w : World) (K : PySem.W.Frag) (mg : Str → Option Value) (base : Heap) (CX : CXT) (k : Nat) (f : Addr) (fd : FuncData) (ps : List Str) (sp : Sp) : Prop where
  len : ∀ vs H Q E, sp vs H Q E → vs.length = ps.length
  go : ∀ (A : Around) (outer : List Env) (s : Shared) (H : Hp) (args : Args) (us : List Value) (vs : List V) (Q : VK) (E : XK),
    A.guards = some [] → Room k A → Env0 P w K mg base A outer s H → BindsTo s fd args (ps.zip us) → Vals vs us → sp vs H Q E → codeAny (model P w) A (.call (.ref f) args) (CR CX outer P w H s Q E) s
theorem FnOk.g {P : Program} {w : World} {K : PySem.W.Frag} {mg : Str → Option Value} {base : Heap} {CX : CXT} {k : Nat} {f : Addr} {fd : FuncData} {ps : List Str} {sp : Sp} (F : FnOk P w K mg base CX k f fd ps sp) : FnG P w K mg base CX k f fd ps sp :=
  ⟨F.len, fun A outer s H args us vs Q E _ => F.run A outer s H args us vs Q E⟩
theorem FnG.mono {P : Program} {w : World} {K : PySem.W.Frag} {mg : Str → Option Value} {base : Heap} {CX : CXT} {j k : Nat} {f : Addr} {fd : FuncData} {ps : List Str} {sp : Sp} (F : FnG P w K mg base CX j f fd ps sp) (h : j ≤ k) : FnG P w K mg base CX k f fd ps sp :=
  ⟨F.len, fun A outer s H args us vs Q E hg hr => F.go A outer s H args us vs Q E hg (hr.mono h)⟩
/-- such a def's promise from its body -/
theorem fnG_of {CX : CXT} {P : Program} {w : World} {K : PySem.W.Frag} {mg : Str → Option Value} {base : Heap} {k : Nat} {f : Addr} {name qual : Str} {params : Arguments} {body : List Stmt} {scope : Scope} {dV kV doc pm cdv ct oc : Value} {an od : Option Addr} {osl : Array (Option Value)} {N ps : List Str} {sp : Sp}
    (lk : K.lookup f = some ⟨oc, od, .func (PySem.W.fnOf name qual params body scope dV kV doc pm an cdv ct), osl⟩) (hcd : PySem.W.codeIn K cdv qual = true) (S : FnScope N ps scope) (len : ∀ vs H Q E, sp vs H Q E → vs.length = ps.length)
    (hbody : ∀ (A : Around) (outer : List Env) (s : Shared) (H : Hp) (vs : List V) (Q : VK) (E : XK), A.guards = some [] → Room k (A.deeper (envOfC qual scope s.heap.objs.size f cdv)) → sp vs H Q E →
      ∃ t, PSs (cxOf CX P w K mg base N qual scope f cdv A outer s H E) body t ∧ t { nx := fun _ H' => Q .non H', rt := Q } (L2.start N vs) H) :
    FnG P w K mg base CX (k + 1) f (PySem.W.fnOf name qual params body scope dV kV doc pm an cdv ct) ps sp := by
  refine ⟨len, fun A outer s H args us vs Q E hgd hr e0 hb r hsp => ?_⟩
  have hl := len _ _ _ _ hsp
  have KX : K.In s.heap := e0.mod.kin.keeps fun b o e => (e0.bs b o e).1
  have lim : s.heap.NoLimit := e0.mod.nolimit.keeps fun b o e => (e0.bs b o e).1
  have kinds : ∀ z ∈ ps.zip us, scope.names.lookup z.1 = some .local ∨ (scope.names.lookup z.1 = some .cell ∧ ((cellsFrom (s.heap.objs.size + 1) scope.names []).lookup z.1).isSome = true) := fun ⟨n, v⟩ hz =>
    (S.par n (List.of_mem_zip hz).1).elim .inl fun q => .inr ⟨q, PySem.W.cellsFrom_some _ _ _ (.inl q)⟩
  refine codeAny_call_function hr.depth (KX _ _ lk) rfl S.co S.gen rfl (PySem.W.codeRec_of KX hcd) (hb _ _ _ _ (wpAny_newFunctionEnv_cells S.kind kinds fun env he s1 x => ?_))
  subst he
  obtain ⟨t, ht, hq⟩ := hbody A outer s H vs Q E hgd (hr.deeper _) hsp
  have I : Inv (cxOf CX P w K mg base N qual scope f cdv A outer s H E) [] (L2.start N vs) H s1 := inv_start S hr.hd e0 hl r x
  refine ⟨lim.keeps x.toInCall.keep, codeAny_func (wpAny_mono (ht.run [] s1 (L2.start N vs) H _ I hq) (fun fl s' hs => ?_) fun e s' hs => hs)⟩
  cases fl with
  | ret u => exact let ⟨v, σ', H', J, rv, q⟩ := hs; ⟨v, H', J.os, J.bare, J.base, J.hok, rv, q⟩
  | next => exact let ⟨σ', H', J, q⟩ := hs; ⟨V.non, H', J.os, J.bare, J.base, J.hok, rfl, q⟩
  | brk => exact let ⟨_, _, _, q⟩ := hs; False.elim q
  | cont => exact let ⟨_, _, _, q⟩ := hs; False.elim q
section
variable {P : Program} {w : World} {K : PySem.W.Frag} {mg : Str → Option Value} {base : Heap} {cl : Nat → Addr}
theorem fnPG {x qual : Str} {st : Stmt} {f : Addr} {fd : FuncData} {N ps : List Str} {k : Nat} {m : M Fl} (F : Fun K x qual st f fd) (S : FnScope N ps (defScope st))
    (hb : ∀ (cdv : Value) (A : Around) (outer : List Env) (s : Shared) (H : Hp) (E : XK), A.guards = some [] → Room k (A.deeper (envOfC qual (defScope st) s.heap.objs.size f cdv)) →
      SMs (cxOf (L2N.CX P w) P w K mg base N qual (defScope st) f cdv A outer s H E) cl (fun c d _ H' => E c d H') (defBody st) m) :
    FnG P w K mg base (L2N.CX P w) (k + 1) f fd ps (spP K cl ps.length (runP N.length m)) := by
  obtain ⟨oc, od, kV, doc, pm, an, cdv, ct, osl, rfl, lk, hcd⟩ := F.ex
  have hps : ps.length ≤ N.length := by
    have := congrArg List.length S.pre
    rw [List.length_take] at this
    omega
  refine fnG_of lk hcd S (fun vs H Q E h => h.1) fun A outer s H vs Q E hgd hr hsp => ?_
  obtain ⟨t, pt, dt⟩ := hb cdv A outer s H E hgd hr
  obtain ⟨hl, G, xs, r, e, rl, hf, hq⟩ := hsp
  refine ⟨t, pt, ?_⟩
  have st0 := stOk_startP (N := N) e rl (by rw [hl]; exact hps)
  unfold runP endP at hf
  have gr : ∀ {G' H' : Hp} {σ' : L2.St} {S' : Sto}, Same G G' → StOk K cl ⟨G, H, fun _ => none, fun _ => none⟩ G' H' σ' S' → Grown G H G' H' := fun {G' H' σ' S'} s k => ⟨s, k.ex, fun a o h => k.frame a o h (fun i z => by cases z), k.gnew⟩
  split at hf
  · rename_i S' em
    cases hf
    exact dt _ G H _ _ _ _ st0 em fun σ' G' H' s' k' => hq .non G' H' (gr s' k') .non
  · rename_i y S' em
    cases hf
    exact dt _ G H _ _ _ _ st0 em fun v σ' G' H' s' k' r' => hq v G' H' (gr s' k') r'
  · rename_i c fs S' em
    cases hf
    exact dt _ G H _ _ _ _ st0 em fun d gs σ' G' H' s' k' a b => hq d gs G' H' (gr s' k') ⟨a.1, a.2.1⟩ b
  · cases hf
end
section
variable {X : Cx} {cl : Nat → Addr} {W : WX} {pos : Pos}
theorem pe_callG {CX : CXT} {k : Nat} {f : Addr} {fd : FuncData} {ps : List Str} {sp : Sp} {E : L2.St → XK} {x : Str} {p : Pos} {e : Expr} {es : List Expr} {t : TA} (F : FnG X.prog X.w X.K X.mg X.base CX k f fd ps sp) (hgd : X.A.guards = some []) (hr : Room k X.A) (hg : Gl X x) (hm : X.mg x = some (.ref f)) (hk : PySem.W.keepIn X.K (.ref f) = true) (hb : Binds X.K fd ps []) (hx : ∀ σ, PassesAt CX X σ (E σ))
    (ha : PA X (e :: es) t) (hdb : (x == ("__debug__" : Str)) = false := by decide) (he : starEach (e :: es) X.env = (false, eval e X.env) :: starEach es X.env := by rfl) (hpl : (backTo pos (starEach es X.env)).any (·.1) = false := by rfl) :
    PE X (.Call (.Name x p) (e :: es) [] pos) (tCallS sp E t) := by
  refine ⟨fun pins s σ H Q I h => ?_⟩
  refine wpAny_Call_Name_kw (ld_glob I hg hm (PySem.W.callWith_K (h₀ := X.base) I.ok.mod.kin hk (thn (ha.run pos pins s σ H _ I h) fun us s1 ⟨vs, H1, I1, r, q⟩ => ⟨I1.kIn, ?_⟩) he hpl) hdb)
  have hl : us.length = ps.length := r.length.symm.trans (F.len _ _ _ _ q)
  have b := hb s1 us I1.kIn (by rw [List.append_nil]; exact hl)
  rw [List.append_nil] at b
  refine wpAny_call (codeAny_mono (F.go X.A X.stack s1 H1 ⟨us, []⟩ us vs Q (E σ) hgd hr I1.env0 b r q) fun r s' hq => ?_)
  cases r with
  | error e => exact hx σ pins H1 s1 e s' I1 hq
  | ok fl =>
    cases fl <;> first | exact I1.after hq | exact False.elim hq
theorem em_callG {x : Str} {k : Nat} {f : Addr} {fd : FuncData} {ps : List Str} {n : Nat} {g : List PV → Option RO} {p : Pos} {e : Expr} {es : List Expr} {ms : List (M PV)} (tk : L2N.Takes X W) (F : FnG X.prog X.w X.K X.mg X.base (L2N.CX X.prog X.w) k f fd ps (spP X.K cl n g)) (hgd : X.A.guards = some []) (hr : Room k X.A) (hm : X.mg x = some (.ref f)) (hk : PySem.W.keepIn X.K (.ref f) = true)
    (hb : Binds X.K fd ps []) (ha : AM X cl W (e :: es) (mArgs ms)) (hl : ms.length = n := by rfl) (hg : Gl X x := by rfl) (hdb : (x == ("__debug__" : Str)) = false := by decide) (he : starEach (e :: es) X.env = (false, eval e X.env) :: starEach es X.env := by rfl) (hpl : (backTo pos (starEach es X.env)).any (·.1) = false := by rfl) :
    EM X cl W (.Call (.Name x p) (e :: es) [] pos) (mCall g ms) := by
  obtain ⟨t, pa, d⟩ := ha
  refine ⟨_, pe_callG (E := WE W) F hgd hr hg hm hk hb (fun σ => L2N.passAt tk σ) pa hdb he hpl, fun F G H σ S rr Q st hm hp => ?_⟩
  refine d.step' (R2 := RV X.K cl) st hm hp fun y S1 v G1 H1 e1 hm1 s1 st1 rv hp1 => ?_
  exact spP_use st1 rv (by rw [rv.length, mArgs_len e1]; exact hl) hm1 hp1

/-! ### repr -/
def pRepr : List PV → Option PV
  | [x] => if PV.isD x = true ∧ (PV.dat x).showable = true ∧ (PV.dat x).shown.length ≤ sizeLine ∧ (PV.dat x).depth ≤ 60 then some (.str (PV.dat x).shown) else none
  | _ => none
def rReprP (K : PySem.W.Frag) : List V → Hp → VK → Prop := fun xs H Q => ∃ v d, xs = [v] ∧ Dp K H v d ∧ d.plain = true ∧ d.showable = true ∧ d.shown.length ≤ sizeLine ∧ d.depth ≤ 60 ∧ Q (.str d.shown) H
mutual
theorem plain_noDict : ∀ d : PyData, d.plain = true → d.hasDict = false
  | .none, _ => by unfold PyData.hasDict; rfl
  | .bool _, _ => by unfold PyData.hasDict; rfl
  | .int _, _ => by unfold PyData.hasDict; rfl
  | .str _, _ => by unfold PyData.hasDict; rfl
  | .list xs, h => by unfold PyData.hasDict; exact plainAll_noDict xs (by unfold PyData.plain at h; exact h)
  | .tuple xs, h => by unfold PyData.hasDict; exact plainAll_noDict xs (by unfold PyData.plain at h; exact h)
  | .dict kvs, h => by unfold PyData.plain at h; cases h
theorem plainAll_noDict : ∀ xs : List PyData, PyData.plainAll xs = true → PyData.hasDictAll xs = false
  | [], _ => by unfold PyData.hasDictAll; rfl
  | x :: xs, h => by
    unfold PyData.plainAll at h
    obtain ⟨h1, h2⟩ := Bool.and_eq_true_iff.mp h
    unfold PyData.hasDictAll
    rw [plain_noDict x h1, plainAll_noDict xs h2]
    rfl
end
theorem call_reprP (hgd : X.A.guards = some []) (hu : X.A.units + 64 < cLine) : CallR X (.builtin "repr") (rReprP X.K) := by
  intro pins s σ H xs us Q I r h
  obtain ⟨v, d, rfl, hd, hpl, hs, hz, hdp, q⟩ := h
  cases r with
  | cons rx rr =>
    cases rr
    obtain ⟨as, rd⟩ := Dp.reads I d v _ hd rx
    cases rd with
    | none => exact PySem.P.repr_of_none ⟨.str _, H, I.tok _, ⟨_, rfl⟩, by simpa only [PyData.shown] using q⟩
    | bool b => exact PySem.P.repr_of_bool ⟨.str _, H, I.tok _, ⟨_, rfl⟩, by simpa only [PyData.shown] using q⟩
    | int i t => exact PySem.P.repr_of_int (by simpa [PyData.showable] using hs) ⟨.str _, H, I.tok _, ⟨_, rfl⟩, by simpa only [PyData.shown] using q⟩
    | str x t => exact PySem.P.repr_of_str ⟨.str _, H, I.tok _, ⟨_, rfl⟩, by simpa only [PyData.shown] using q⟩ (by simpa only [PyData.shown] using hz)
    | list h1 h2 h3 h4 => exact repr_of_reads' (.list h1 h2 h3 h4) hs (PyData.noDict_hsm (plain_noDict _ hpl)) hgd (by omega) (fun _ _ e => e) (fun h' u tk hk => ⟨.str _, H, I.kept hk, ⟨_, rfl⟩, q⟩) hz
    | tuple h1 h2 h3 h4 => exact repr_of_reads' (.tuple h1 h2 h3 h4) hs (PyData.noDict_hsm (plain_noDict _ hpl)) hgd (by omega) (fun _ _ e => e) (fun h' u tk hk => ⟨.str _, H, I.kept hk, ⟨_, rfl⟩, q⟩) hz
    | dict h1 h2 h3 h4 h5 => exact repr_of_reads' (.dict h1 h2 h3 h4 h5) hs (PyData.noDict_hsm (plain_noDict _ hpl)) hgd (by omega) (fun _ _ e => e) (fun h' u tk hk => ⟨.str _, H, I.kept hk, ⟨_, rfl⟩, q⟩) hz
theorem cs_repr : CallS X.K cl (rReprP X.K) pRepr := by
  intro G H vs xs z Q e rl hz k
  unfold pRepr at hz
  split at hz <;> try (cases hz; done)
  rename_i x
  split at hz <;> try (cases hz; done)
  rename_i c
  obtain ⟨c1, c2, c3, c4⟩ := c
  cases hz
  cases rl with
  | cons r1 r2 =>
    cases r2
    exact ⟨_, _, rfl, (r1.mono e).dp c1, dat_plain x, c2, c3, c4, k _ _ (.inl ⟨rfl, .str _ c3⟩)⟩
end
end Kp
set_option Elab.async false
set_option linter.all false
set_option maxRecDepth 100000
set_option maxHeartbeats 4000000
namespace Kp
open PySem PySem.Spec PyProof.Rows L2

/-! ### the end of a law: its promise is kept where no repr is under way -/
theorem law_callG {P : Program} {w : World} {K : PySem.W.Frag} {mg mb : Str → Option Value} {CX : CXT} {k : Nat} {fa a : Addr} {fd : FuncData} {x : Str} {sp : Sp} {s1 : Shared} {us : List Value} {ns : List Int} (KX : K.In s1.heap) (hns : s1.heap.Ns mainGlobals mg) (hb : s1.heap.Ns builtinsNs mb) (hbb : ∀ x : Str, x ≠ "__name__" → mb x = bootBuiltins x)
    (hlim : s1.heap.NoLimit) (hg : s1.gens = #[]) (ha : s1.heap.get? a = some { cls := .type "list", data := .seq us.toArray }) (hi : IntsAre us ns) (hl : ns.length ≤ sizeLine) (hr : Room k callerA) (F : ∀ base : Heap, K.In base → base.Ns mainGlobals mg → FnG P w K mg base CX k fa fd [x] sp)
    (hbind : ∀ (s : Shared) (u : Value), BindsTo s fd ⟨[u], []⟩ [(x, u)]) (hsp : ∀ H : Hp, Only H → SqL K H a (ns.map V.int) → sp [.ref a] H (fun v _ => v = .bl true) fun _ _ _ => False) (hCX : ∀ H e s', CX [] H s1 (fun _ _ _ => False) e s' → False) :
    codeAny (model P w) callerA (.call (.ref fa) ⟨[.ref a], []⟩) (fun r s' => r = .ok (.ret (.bool true)) ∧ OldK s1.heap s'.heap ∧ s'.os = s1.os ∧ AllBare s'.gens) s1 := by
  have rv := vals_ints hi
  have lz := hi.length
  have core : ∀ H : Hp, Only H → SqL K H a (ns.map V.int) → HOk P w H s1.heap → (∀ b, H b ≠ none → b = a) → (H a ≠ none → K.lookup a = none) →
      codeAny (model P w) callerA (.call (.ref fa) ⟨[.ref a], []⟩) (fun r s' => r = .ok (.ret (.bool true)) ∧ OldK s1.heap s'.heap ∧ s'.os = s1.os ∧ AllBare s'.gens) s1 := fun H hO hS hok hA hK => by
    -- what is no list is not tracked
    have noA : ∀ {b : Addr} {o : Obj}, s1.heap.get? b = some o → (∀ its c, o.data ≠ .seq its c) → H b = none := fun {b o} e d => by
      cases q : H b with
      | none => rfl
      | some u =>
        have hb' : b = a := hA b (by rw [q]; exact fun z => nomatch z)
        subst hb'
        rw [ha] at e
        cases e
        exact absurd rfl (d _ _)
    have nsK : ∀ {b : Addr} {m : Str → Option Value}, s1.heap.Ns b m → (hidT s1.heap H).Ns b m := fun {b m} ⟨o, es, ep, e, d, r⟩ => ⟨o, es, ep, hidT_get e (noA e fun its c z => by rw [d] at z; cases z), d, r⟩
    have hKb : K.In (hidT s1.heap H) := fun b o e => hidT_get (KX b o e) (by
      cases q : H b with
      | none => rfl
      | some u =>
        have hb' : b = a := hA b (by rw [q]; exact fun z => nomatch z)
        subst hb'
        have n := hK (by rw [q]; exact fun z => nomatch z)
        rw [n] at e
        cases e)
    have hM : Mod K mg (hidT s1.heap H) := by
      obtain ⟨mc, l1, l2⟩ := hlim
      exact ⟨hKb, nsK hns, ⟨mb, nsK hb, hbb⟩, mc, nsK l1, l2⟩
    have e0 : Env0 P w K mg (hidT s1.heap H) callerA [] s1 H := ⟨rfl, hM, fun b o e => of_hidT e, Nat.le_of_eq (hidT_size _ _), trivial, (fun b z => nomatch z), hok, .of_eq hg⟩
    refine codeAny_mono ((F _ hKb (nsK hns)).go callerA [] s1 H ⟨[.ref a], []⟩ [.ref a] [.ref a] _ _ rfl hr e0 (hbind s1 (.ref a)) (.cons rfl .nil) (hsp H hO hS)) fun r s2 h => ?_
    cases r with
    | error e => exact (hCX H e s2 h).elim
    | ok fl =>
      cases fl <;> try exact False.elim h
      obtain ⟨v, H2, os, bare, un, hok2, rv2, q⟩ := h
      have q' : v = .bl true := q
      subst q'
      cases rv2
      refine ⟨rfl, OldK.of_keep fun b o e => ?_, os, bare⟩
      cases q : H b with
      | none => exact un.keep b o e q (fun z => nomatch z) (fun z => nomatch z)
      | some u =>
        rcases hO b with z | ⟨ob, xs, z⟩
        · rw [q] at z; cases z
        · obtain ⟨y1, _⟩ := hok b _ z
          obtain ⟨y2, _⟩ := hok2 b _ (un.frzs b ob _ z)
          rw [e] at y1
          cases y1
          exact y2
  by_cases hk : ∃ o, K.lookup a = some o
  · obtain ⟨o, hk⟩ := hk
    have e := (KX a o hk).symm.trans ha
    cases e
    exact core (fun _ => none) (fun _ => .inl rfl) (.inr ⟨_, us.toArray, _, hk, rfl, rfl, rfl, by rw [List.size_toArray, lz]; exact hl, by simpa using rv⟩) (fun b u z => nomatch z) (fun b z => absurd rfl z) fun z => absurd rfl z
  · have hk' : K.lookup a = none := by
      cases q : K.lookup a with
      | none => rfl
      | some o => exact absurd ⟨o, q⟩ hk
    have one : ∀ {b : Addr} {u : HO}, upd (fun _ => none) a (HO.frz { cls := .type "list", data := .seq us.toArray } (.lst (ns.map V.int))) b = some u → b = a ∧ u = HO.frz { cls := .type "list", data := .seq us.toArray } (.lst (ns.map V.int)) := fun {b u} z => by
      by_cases c : b = a
      · subst c
        rw [upd_same] at z
        exact ⟨rfl, (Option.some.inj z).symm⟩
      · rw [upd_ne c] at z
        cases z
    refine core (upd (fun _ => none) a (.frz { cls := .type "list", data := .seq us.toArray } (.lst (ns.map V.int)))) (fun b => ?_) (.inl (.inr ⟨{ cls := .type "list", data := .seq us.toArray }, upd_same⟩)) (fun b u z => ?_) (fun b z => ?_) fun _ => hk'
    · by_cases c : b = a
      · subst c; exact .inr ⟨_, _, upd_same⟩
      · exact .inl (upd_ne c)
    · obtain ⟨rfl, rfl⟩ := one z
      exact ⟨ha, by rw [List.length_map]; exact hl, us, _, rv, ha⟩
    · cases q : upd (fun _ => none) a (HO.frz { cls := .type "list", data := .seq us.toArray } (.lst (ns.map V.int))) b with
      | none => exact absurd q z
      | some u => exact (one q).1
theorem walk_ofG {l : PySem.W.OpenLaw} {n k : Nat} {q : Program} {loose : List Str} {XP : (Str → Option Value) → Heap → Prop} {YP : World → Heap → Prop} {d : DefRec} {K : Params → PySem.W.Frag} {CX : World → CXT} {sp : World → Sp} {x : Str} (hn : l.most = some n) (hn2 : n ≤ sizeLine) (hdf : d.params.defaults = []) (hr : Room k callerA) (hY : ∀ (w : World) (h : Heap), YP w h → (K w.params).In h)
    (F : ∀ (w : World) (mg : Str → Option Value) (fa : Addr) (h : Heap), (K w.params).In h → h.Ns mainGlobals mg → mg d.name = some (.ref fa) → ∃ fd : FuncData, (∀ (s : Shared) (u : Value), BindsTo s fd ⟨[u], []⟩ [(x, u)]) ∧ ∀ base : Heap, (K w.params).In base → base.Ns mainGlobals mg → FnG l.prog w (K w.params) mg base (CX w) k fa fd [x] (sp w))
    (hsp : ∀ (w : World) (H : Hp) (a : Addr) (ns : List Int), ns.length ≤ n → Only H → SqL (K w.params) H a (ns.map V.int) → sp w [.ref a] H (fun v _ => v = .bl true) fun _ _ _ => False) (hCX : ∀ (w : World) (H : Hp) (s : Shared) (e : Value) (s' : Shared), CX w [] H s (fun _ _ _ => False) e s' → False) :
    PySem.W.WalkO q loose XP YP l.row.toRowW d [] (fun f vs => PySem.call f vs) := by
  refine Att.attach_call hn hdf fun w s0 s1 mg mb fa o pm cd doc a vs ns G Y ho hd hcd hmg hobj hints hlen hg => ?_
  obtain ⟨fd, hb, hF⟩ := F w mg fa _ (hY w _ Y) G.T.g hmg
  exact law_callG (hY w _ Y) G.T.g G.T.b G.T.builtins G.T.nolimit hg hobj hints (Nat.le_trans hlen hn2) hr hF hb (fun H hO hS => hsp w H a ns hlen hO hS) fun H e s' => hCX w H s1 e s'
end Kp
set_option Elab.async false
set_option linter.all false
set_option maxRecDepth 100000
set_option maxHeartbeats 4000000
namespace Kp
open PySem PySem.Spec PyProof.Rows L2

/-! ### the join -/
def nth {α : Type} (d : α) : List α → Nat → α
  | [], _ => d
  | a :: _, 0 => a
  | _ :: r, n + 1 => nth d r n
theorem kitTyX {K : PySem.W.Frag} {a : Addr} {T : String} {b : Bool} (h0 : (Value.ref a == Value.type T) = false) (h1 : PySem.W.kitMeta T = true) (h2 : PySem.W.subIn K (.ref a) (.type T) = some b) : PySem.W.kitOne K (.ref a) (.type T) = some b := by
  unfold PySem.W.kitOne
  rw [if_neg (by rw [h0]; exact Bool.false_ne_true)]
  unfold PySem.W.kitCls
  dsimp only
  rw [if_pos h1]
  exact h2
theorem kit_own {K : PySem.W.Frag} {a c : Addr} {b : Bool} (h0 : (Value.ref a == Value.ref c) = false) (h1 : PySem.W.isClsIn K c = true) (h2 : PySem.W.typeIn K (.ref c) = some (.type "type")) (h3 : PySem.W.subIn K (.ref a) (.ref c) = some b) : PySem.W.kitOne K (.ref a) (.ref c) = some b := by
  unfold PySem.W.kitOne
  rw [if_neg (by rw [h0]; exact Bool.false_ne_true)]
  unfold PySem.W.kitCls
  dsimp only
  have e : ((PySem.W.clsIn K c).isSome && PySem.W.typeIn K (.ref c) == some (.type "type")) = true := by
    have h1' : (PySem.W.clsIn K c).isSome = true := h1
    rw [h1', h2] <;> rfl
  rw [if_pos e]
  exact h3
theorem own_subs {K : PySem.W.Frag} {C : Addr} (h1 : PySem.W.subIn K (.type "NoneType") (.ref C) = some false) (h2 : PySem.W.subIn K (.type "bool") (.ref C) = some false) (h3 : PySem.W.subIn K (.type "int") (.ref C) = some false) (h4 : PySem.W.subIn K (.type "str") (.ref C) = some false)
    (h5 : PySem.W.subIn K (.type "tuple") (.ref C) = some false) (h6 : PySem.W.subIn K (.type "list") (.ref C) = some false) (h7 : PySem.W.subIn K (.type "dict") (.ref C) = some false) : ∀ t, t ∈ tyNames → PySem.W.subIn K (.type t) (.ref C) = some false := by
  intro t h
  simp only [tyNames, List.mem_cons, List.not_mem_nil, or_false] at h
  rcases h with rfl | rfl | rfl | rfl | rfl | rfl | rfl <;> assumption
/-- what a law promises: True -/
def spLaw (K : PySem.W.Frag) (f : List PV → Option RO) : Sp := fun vs H Q _ => ∃ (a : Addr) (ns : List Int), vs = [.ref a] ∧ SqL K H a (ns.map V.int) ∧ f [.frl ns] = some (.ret (.bl true)) ∧ ∀ H', Q (.bl true) H'
theorem spLaw_of {K : PySem.W.Frag} {cl : Nat → Addr} {f : List PV → Option RO} {vs : List V} {H : Hp} {Q : VK} {E : XK} (h : spLaw K f vs H Q E) : spP K cl 1 f vs H Q E := by
  obtain ⟨a, ns, rfl, hs, hf, k⟩ := h
  refine ⟨rfl, H, [.frl ns], .ret (.bl true), Same.refl _, .one (.frl hs), hf, ?_⟩
  intro v G' H' _ r
  cases r
  exact k H'
theorem FnG.imp {P : Program} {w : World} {K : PySem.W.Frag} {mg : Str → Option Value} {base : Heap} {CX : CXT} {k : Nat} {f : Addr} {fd : FuncData} {ps : List Str} {sp sp' : Sp} (F : FnG P w K mg base CX k f fd ps sp)
    (h : ∀ vs H Q E, sp' vs H Q E → sp vs H Q E) : FnG P w K mg base CX k f fd ps sp' :=
  ⟨fun vs H Q E q => F.len vs H Q E (h _ _ _ _ q), fun A outer s H args us vs Q E hg hr e0 hb r q => F.go A outer s H args us vs Q E hg hr e0 hb r (h _ _ _ _ q)⟩
theorem walk_endG {l : PySem.W.OpenLaw} {n k : Nat} {q : Program} {loose : List Str} {XP : (Str → Option Value) → Heap → Prop} {YP : World → Heap → Prop} {d : DefRec} {K : Params → PySem.W.Frag} {x : Str} {f : List PV → Option RO} (hn : l.most = some n) (hn2 : n ≤ sizeLine) (hdf : d.params.defaults = []) (hr : Room k callerA) (hY : ∀ (w : World) (h : Heap), YP w h → (K w.params).In h)
    (F : ∀ (w : World) (mg : Str → Option Value) (fa : Addr) (h : Heap), (K w.params).In h → h.Ns mainGlobals mg → mg d.name = some (.ref fa) → ∃ fd : FuncData, (∀ (s : Shared) (u : Value), BindsTo s fd ⟨[u], []⟩ [(x, u)]) ∧ ∀ base : Heap, (K w.params).In base → base.Ns mainGlobals mg → ∃ cl : Nat → Addr, FnG l.prog w (K w.params) mg base (L2N.CX l.prog w) k fa fd [x] (spP (K w.params) cl 1 f))
    (hf : ∀ ns : List Int, ns.length ≤ n → f [.frl ns] = some (.ret (.bl true))) :
    PySem.W.WalkO q loose XP YP l.row.toRowW d [] (fun f vs => PySem.call f vs) := by
  refine walk_ofG (n := n) (k := k) (x := x) (CX := fun w => L2N.CX l.prog w) (sp := fun w => spLaw (K w.params) f) hn hn2 hdf hr hY (fun w mg fa h KX G hm => ?_) (fun w H a ns hl _ hS => ⟨a, ns, rfl, hS, hf ns hl, fun _ => rfl⟩) ?_
  · obtain ⟨fd, hb, hF⟩ := F w mg fa h KX G hm
    refine ⟨fd, hb, fun base KB NB => ?_⟩
    obtain ⟨cl, hG⟩ := hF base KB NB
    exact hG.imp fun vs H Q E => spLaw_of
  · intro w H s e s' h
    obtain ⟨_, _, _, _, _, _, _, _, _, _, _, _, z⟩ := h
    exact z
theorem walk_end {l : PySem.W.OpenLaw} {n k : Nat} {q : Program} {loose : List Str} {XP : (Str → Option Value) → Heap → Prop} {YP : World → Heap → Prop} {d : DefRec} {K : Params → PySem.W.Frag} {x : Str} {f : List PV → Option RO} (hn : l.most = some n) (hn2 : n ≤ sizeLine) (hdf : d.params.defaults = []) (hr : Room k callerA) (hY : ∀ (w : World) (h : Heap), YP w h → (K w.params).In h)
    (F : ∀ (w : World) (mg : Str → Option Value) (fa : Addr) (h : Heap), (K w.params).In h → h.Ns mainGlobals mg → mg d.name = some (.ref fa) → ∃ fd : FuncData, (∀ (s : Shared) (u : Value), BindsTo s fd ⟨[u], []⟩ [(x, u)]) ∧ ∀ base : Heap, (K w.params).In base → base.Ns mainGlobals mg → ∃ cl : Nat → Addr, FnOk l.prog w (K w.params) mg base (L2N.CX l.prog w) k fa fd [x] (spP (K w.params) cl 1 f))
    (hf : ∀ ns : List Int, ns.length ≤ n → f [.frl ns] = some (.ret (.bl true))) :
    PySem.W.WalkO q loose XP YP l.row.toRowW d [] (fun f vs => PySem.call f vs) :=
  walk_endG hn hn2 hdf hr hY (fun w mg fa h KX G hm => by
    obtain ⟨fd, hb, hF⟩ := F w mg fa h KX G hm
    exact ⟨fd, hb, fun base KB NB => let ⟨cl, hG⟩ := hF base KB NB; ⟨cl, FnOk.g hG⟩⟩) hf
end Kp
set_option Elab.async false
set_option linter.all false
set_option maxRecDepth 100000
set_option maxHeartbeats 2000000
namespace Kp
open PySem PyProof.Rows L2

/-! ### while -/
def whileM (c : M Bool) (m : M Fl) : Nat → M Fl
  | 0 => fun _ => none
  | n + 1 => fun S => match c S with
    | some (.ok true S1) => match m S1 with
      | none => none
      | some (.ok .nx S2) => whileM c m n S2
      | some (.ok .ct S2) => whileM c m n S2
      | some (.ok .bk S2) => some (.ok .nx S2)
      | some r => some r
    | some (.ok false S1) => some (.ok .nx S1)
    | some (.ex k fs S1) => some (.ex k fs S1)
    | none => none
section
variable {X : Cx} {cl : Nat → Addr} {W : WX} {pos : Pos}
theorem does_while {tc : TT} {tb : TS} {c : M Bool} {m : M Fl} {n : Nat} (hc : Does X.K cl W RB tc c) (hb : DoesS X.K cl W tb m) : DoesS X.K cl W (tWhile tc tb) (whileM c m n) := by
  intro F G H σ S r D st hm hp
  refine ⟨fun k σ' H' => ∃ G' S', Same G G' ∧ StOk X.K cl F G' H' σ' S' ∧ whileM c m k S' = some r, ⟨n, G, S, Same.refl _, st, hm⟩, ?_⟩
  rintro k σ' H' ⟨G', S', s', st', hl⟩
  cases k with
  | zero => cases hl
  | succ k =>
    have hl' : (match c S' with
      | some (.ok true S1) => match m S1 with
        | none => none
        | some (.ok .nx S2) => whileM c m k S2
        | some (.ok .ct S2) => whileM c m k S2
        | some (.ok .bk S2) => some (.ok .nx S2)
        | some r => some r
      | some (.ok false S1) => some (.ok .nx S1)
      | some (.ex k fs S1) => some (.ex k fs S1)
      | none => none) = some r := hl
    cases ec : c S' with
    | none => rw [ec] at hl'; cases hl'
    | some rc =>
      rw [ec] at hl'
      cases rc with
      | ex e fs S1 =>
        cases hl'
        refine hc F G' H' σ' S' _ _ st' ec ?_
        exact fun d gs G3 H3 s3 st3 a b => hp d gs σ' G3 H3 (s'.trans s3) st3 a b
      | ok b S1 =>
        refine hc F G' H' σ' S' _ _ st' ec ?_
        intro v G3 H3 s3 st3 rv
        have rv' : v = b := rv
        subst rv'
        cases v with
        | false =>
          cases hl'
          exact hp σ' G3 H3 (s'.trans s3) st3
        | true =>
          rw [if_pos rfl]
          refine ⟨fun σ5 H5 => ∃ G5 S5, Same G G5 ∧ StOk X.K cl F G5 H5 σ5 S5 ∧ whileM c m k S5 = some r, fun σ5 H5 q => ⟨k, Nat.lt_succ_self k, q⟩, ?_⟩
          dsimp only at hl'
          cases em : m S1 with
          | none => rw [em] at hl'; cases hl'
          | some rr =>
            rw [em] at hl'
            refine hb F G3 H3 σ' S1 _ _ st3 em ?_
            cases rr with
            | ok f S5 =>
              cases f with
              | nx => exact fun σ5 G5 H5 s5 st5 => ⟨G5, S5, (s'.trans s3).trans s5, st5, hl'⟩
              | ct => exact fun σ5 G5 H5 s5 st5 => ⟨G5, S5, (s'.trans s3).trans s5, st5, hl'⟩
              | bk =>
                cases hl'
                exact fun σ5 G5 H5 s5 st5 => hp σ5 G5 H5 ((s'.trans s3).trans s5) st5
              | rt y =>
                cases hl'
                exact fun v σ5 G5 H5 s5 st5 r5 => hp v σ5 G5 H5 ((s'.trans s3).trans s5) st5 r5
            | ex e fs S5 =>
              cases hl'
              exact fun d gs σ5 G5 H5 s5 st5 a b => hp d gs σ5 G5 H5 ((s'.trans s3).trans s5) st5 a b
theorem sm_while {c : Expr} {body : List Stmt} {mc : M Bool} {m : M Fl} (n : Nat) (hp : PassesOwn (model X.prog X.w) X.A X.env X.xe) (hc : TM X cl W c mc) (hb : SMs X cl W body m) : SM X cl W (.While c body [] pos) (whileM mc m n) := by
  obtain ⟨tc, pc, dc⟩ := hc
  obtain ⟨tb, pb, db⟩ := hb
  exact ⟨_, ps_while hp pc pb, does_while dc db⟩
end
end Kp
set_option Elab.async false
set_option linter.all false
set_option maxRecDepth 100000
set_option maxHeartbeats 2000000
namespace Kp
open PySem PyProof.Rows L2

/-! ### enumerate(tuple) -/
theorem meets_enum1 {v : Value} {o : Obj} {Hs : Heap → Prop} (B : Begins v o Hs) :
    Meets (Builtin.«enumerate.__new__» ⟨[.type "enumerate", v], []⟩) (fun _ R s => Hs s.heap ∧ R (.ok (.ret (.ref (s.heap.push o).objs.size)))
      { s with heap := (s.heap.push o).push { cls := .type "enumerate", data := .fields #[.none, .bool false, .ref s.heap.objs.size, rawInt 0, .none, .none] } }) :=
  .of_wp fun prog w A R s hyp => by
    obtain ⟨hp, gg, dd, tt, oo⟩ := s
    obtain ⟨h0, h1⟩ := hyp
    have isub := sub_enumerate
    have go : ∀ {A2 : Around} {E2 Q2 : Value → Shared → Prop}, Q2 (.ref hp.objs.size) ⟨hp.push o, gg, dd, tt, oo⟩ → wpAny (model prog w) A2 (pyIter v) Q2 E2 ⟨hp, gg, dd, tt, oo⟩ :=
      fun z => B.iter prog w _ _ ⟨hp, gg, dd, tt, oo⟩ _ h0 z
    wp_walk using go
    refine wpAny_stack_any fun st2 => wpAny_pure ?_
    split
    · rename_i cc _ _ _ _ _
      cases (cc == Value.type "enumerate")
      all_goals
        wp_walk using go
        exact ⟨_, rfl, h1⟩
    · wp_walk using go
      exact ⟨_, rfl, h1⟩
section
variable {prog : Program} {w : World} {A : Around} {E : Value → Shared → Prop} {s : Shared}
theorem enum_new {v : Value} {o : Obj} {Hs : Heap → Prop} {Q : Value → Shared → Prop} (B : Begins v o Hs) (h0 : Hs s.heap)
    (k : ∀ h2, IsEnum h2 (s.heap.objs.size + 1) s.heap.objs.size 0 .none → h2.get? s.heap.objs.size = some o → h2.objs.size = s.heap.objs.size + 2 → (∀ b u, s.heap.get? b = some u → h2.get? b = some u) → Q (.ref (s.heap.objs.size + 1)) { s with heap := h2 }) :
    wpAny (model prog w) A (call (.type "enumerate") [v]) Q E s := by
  refine callType_new F.called_enumerate (by decide) (F.typeCall_enumerate_1 _) (F.newCall_enumerate_1 _) (fun ob => F.args_object_init_2 ob _) F.entry_enumerate_new (meets_enum1 B) ⟨h0, ?_⟩
  have sz : (s.heap.push o).objs.size = s.heap.objs.size + 1 := Heap.size_push ..
  show _ ∧ _
  rw [sz]
  have at2 : IsEnum ((s.heap.push o).push { cls := .type "enumerate", data := .fields #[.none, .bool false, .ref s.heap.objs.size, rawInt 0, .none, .none] }) (s.heap.objs.size + 1) s.heap.objs.size 0 .none := by
    have q := Heap.get?_push_size (s.heap.push o) (o := { cls := .type "enumerate", data := .fields #[.none, .bool false, .ref s.heap.objs.size, rawInt 0, .none, .none] }) rfl
    rw [sz] at q
    exact q
  exact ⟨⟨_, at2, rfl⟩, k _ at2 (Heap.get?_push_of_some _ (Heap.get?_push_size _ B.free)) (by rw [Heap.size_push, sz]) fun b u e => Heap.get?_push_of_some _ (Heap.get?_push_of_some _ e)⟩
end
theorem inv_tup_inj {X : Cx} {pins : List (Addr × Obj)} {σ : L2.St} {H : Hp} {s : Shared} {a : Addr} {xs ys : List V} (I : Inv X pins σ H s) (h1 : SqT X.K H a xs) (h2 : SqT X.K H a ys) : xs = ys := by
  obtain ⟨l1, v1, ⟨o1, g1, _, n1, d1⟩, _⟩ := I.tuple h1
  obtain ⟨l2, v2, ⟨o2, g2, _, n2, d2⟩, _⟩ := I.tuple h2
  rw [g1] at g2
  cases g2
  rw [d1] at d2
  injection d2 with d3 _
  have e : l1 = l2 := by simpa using congrArg Array.toList d3
  subst e
  exact v1.inj v2
theorem enum_stop {prog : Program} {w : World} {A : Around} {E : Value → Shared → Prop} {s : Shared} {e it t : Addr} {i : Nat} {its : Array Value} {old : Value} {Q : Option Value → Shared → Prop} (calm : A.in1.handled = none)
    (at1 : IsEnum s.heap e it i old) (at2 : s.heap.IsTupleIter it t i) (tup : s.heap.IsTuple t its) (none_ : its[i]? = none) (k : ∀ h2, Heap.ExtBut it s.heap h2 → Q none { s with heap := h2 }) : wpAny (model prog w) A (pyNext (.ref e)) Q E s := by
  have ty : s.TypeIs (.ref e) "enumerate" := ⟨_, at1, rfl⟩
  unfold pyNext
  refine wpAny_bind (wpAny_attempt (wpAny_callSpecial?_slot (name := Str.ofString "__next__") ty F.slot_enumerate_next (wpAny_call_entry F.slot_enumerate_next ty F.entry_enumerate_next ?_ (F.args_enumerate_next_1 _))))
  show wpAny _ _ (field (.ref e) 2 >>= _) _ _ s
  refine wpAny_bind (wpAny_field at1 rfl (x := .ref it) rfl (wpAny_bind (wpAny_nextOf_tuple_end calm at2 tup none_ fun h2 x g1 g2 => ?_)))
  obtain ⟨ox, g3, g4⟩ := g2
  exact wpAny_bind (wpAny_isInstance (T := "StopIteration") (b := true) ⟨ox, g3, g4⟩ isSubtype_stop (wpAny_pure (k _ g1)))
/-- the tuple at a, each item in a new pair -/
def Itet (K : PySem.W.Frag) (a : Addr) : It :=
  ⟨fun i H => ∃ (xs : List V) (x : V), SqT K H a xs ∧ xs[i]? = some x,
    fun i H v H' => ∃ (T : Addr) (o : Obj) (x : V), v = .ref T ∧ o.dict = none ∧ H T = none ∧ H' = upd H T (.frz o (.tup [.int (i : Nat), x])) ∧ ∀ xs, SqT K H a xs → xs[i]? = some x,
    fun i H => ∃ xs : List V, SqT K H a xs ∧ xs.length ≤ i⟩
theorem turn_enumT {P : Program} {w : World} {K : PySem.W.Frag} {elts : List Expr} {kk : Nat} {tpos : Pos} (a e it : Addr) :
    Turn P w K (.Tuple elts kk tpos) (Itet K a) [e, it] e (fun i h => (∃ old, IsEnum h e it ((i : Nat) : Int) old) ∧ h.IsTupleIter it a i ∧ e ≠ it ∧ e ≠ a ∧ a ≠ it) where
  mem := List.mem_cons_self
  obj := fun i h st b hb => by
    obtain ⟨⟨old, at1⟩, ⟨o, at2, hc, hd⟩, _⟩ := st
    rcases List.mem_cons.mp hb with z | z
    · subst z
      exact ⟨_, at1, fun v q => nomatch q⟩
    · have z' := List.mem_singleton.mp z
      subst z'
      exact ⟨o, at2, fun v q => by rw [hd] at q; cases q⟩
  keep := fun i h h' st k => by
    obtain ⟨⟨old, at1⟩, at2, r⟩ := st
    exact ⟨⟨old, k e (by simp) _ at1⟩, at2.at (fun o q => k it (by simp) o q), r⟩
  item := by
    intro X hP hw hK hc i pins s σ H E I hf st hg
    subst hP hw hK
    obtain ⟨⟨old, at1⟩, at2, nei, nea, nai⟩ := st
    obtain ⟨xs, x, hq, hx⟩ := hg
    obtain ⟨its, rv, tup, _⟩ := I.tuple hq
    obtain ⟨u, hu, ru⟩ := rv.get hx
    have le : e < s.heap.objs.size := Heap.lt_size at1
    have li : it < s.heap.objs.size := by
      obtain ⟨_, q, _⟩ := at2
      exact Heap.lt_size q
    have hh : X.A.in1.handled = none := I.ok.hd hc
    have hlt : i < its.toArray.size := by
      have := (List.getElem?_eq_some_iff.mp hu).1
      simpa using this
    refine wpAny_pyNext_enum_itemD (Draws.tuple hh it a nai its.toArray) at1 ⟨at2, tup⟩ hlt nei (by simp [nei, nea]) fun y h2 tk hy out st2 hT sz hk => ?_
    have ey : y = u := by
      have hy' : its.toArray[i]? = some y := hy
      have : its[i]? = some y := by simpa using hy'
      rw [hu] at this
      exact (Option.some.inj this).symm
    subst ey
    refine ⟨_, rfl, wpAny_letOwnedTupleGo_enum (s := { s with heap := h2, toks := tk + 1 }) out fun h3 at3 sb => ?_⟩
    have hT2 : h3.get? s.heap.objs.size = some (tupO [.int i tk, y]) := (sb.2 _ (Nat.ne_of_gt le)).trans hT
    have nw : ObjOk X.prog X.w (upd H s.heap.objs.size (.frz (tupO [.int i tk, y]) (.tup [.int (i : Nat), x]))) h3 s.heap.objs.size (.frz (tupO [.int i tk, y]) (.tup [.int (i : Nat), x])) :=
      ⟨hT2, by show 2 ≤ sizeLine; decide, [.int i tk, y], .cons ⟨_, rfl⟩ (.cons ru .nil), ⟨_, hT2, rfl, _, rfl⟩⟩
    have J : Inv X pins σ (upd H s.heap.objs.size (.frz (tupO [.int i tk, y]) (.tup [.int (i : Nat), x]))) { s with heap := h3, toks := tk + 1 } :=
      I.turnedNew (ch := [e, it]) (fun b ob hb q => (sb.2 b (fun z => hb (by simp [z]))).trans (hk b ob (fun z => hb (by simp [z])) (fun z => hb (by simp [z])) q)) hf (Nat.le_refl _) nw
    refine ⟨.ref s.heap.objs.size, _, J, rfl, ⟨_, tupO [.int i tk, y], x, rfl, rfl, I.hok.fresh (Nat.le_refl _), rfl, fun ys hy => ?_⟩, ⟨⟨y, ?_⟩, st2.1.at (fun o q => (sb.2 it (Ne.symm nei)).trans q), nei, nea, nai⟩, fun b hb => ?_⟩
    · rw [inv_tup_inj I hy hq]
      exact hx
    · have e1 : ((i + 1 : Nat) : Int) = (i : Int) + 1 := by omega
      rw [e1]
      exact at3
    · have lb : b < s.heap.objs.size := by
        rcases List.mem_cons.mp hb with z | z
        · rw [z]; exact le
        · rw [List.mem_singleton.mp z]; exact li
      rw [upd_ne (Nat.ne_of_lt lb)]
      exact (hf b hb).1
  done := by
    intro X hP hw hK hc i pins s σ H E I hf st hg
    subst hP hw hK
    obtain ⟨⟨old, at1⟩, at2, nei, nea, nai⟩ := st
    obtain ⟨xs, hq, hx⟩ := hg
    obtain ⟨its, rv, tup, _⟩ := I.tuple hq
    have hl := rv.length
    have hh : X.A.in1.handled = none := I.ok.hd hc
    obtain ⟨f0, f1, f2, f3, f4, f5⟩ := hf it (by simp)
    exact enum_stop hh at1 at2 tup (by simp; omega) fun h2 eb => ⟨rfl, I.turned (t' := s.toks) (fun b o hb q => eb b o hb q) f0 f1 f3 f4 f5⟩
  self := fun A i s Q E st k => let ⟨⟨_, at1⟩, _⟩ := st; wpAny_pyIter_enum at1 k
def iEnumT (K : PySem.W.Frag) (ta : TA) : TI := fun σ H R => ta σ H fun vs H1 => ∃ a xs, vs = [.ref a] ∧ SqT K H1 a xs ∧ R (Itet K a) H1
theorem pi_enumT {X : Cx} {e : Expr} {ta : TA} {p pos tpos : Pos} {elts : List Expr} {kk : Nat} (hg : Gl X "enumerate") (hm : X.mg "enumerate" = none) (ha : PA X [e] ta) (hs : starEach [e] X.env = [(false, eval e X.env)] := by rfl) :
    PI X (.Tuple elts kk tpos) (.Call (.Name "enumerate" p) [e] [] pos) (iEnumT X.K ta) := by
  refine ⟨fun pins s σ H R I h => Call_ (ld_blt I hg hm boot_enumerate (PyProof.Rows.callWith_type1 (thn (ha.run pos pins s σ H _ I h) fun us s1 ⟨vs, H1, I1, r1, q1⟩ => ?_) hs rfl))⟩
  obtain ⟨a, xs, rfl, hq, q⟩ := q1
  obtain ⟨u, rfl, ru⟩ := vals1 r1
  obtain rfl : u = Value.ref a := ru
  obtain ⟨its, rv, tup, _⟩ := I1.tuple hq
  have la : a < s1.heap.objs.size := by
    obtain ⟨o, g, _⟩ := tup
    exact Heap.lt_size g
  refine enum_new (begins_tuple a its.toArray) tup fun h2 at1 at2 sz kp => wpAny_pyIter_enum at1 ?_
  have I2 : Inv X pins σ H1 { s1 with heap := h2 } := I1.kept (t' := s1.toks) kp
  refine ⟨s1.heap.objs.size + 1, [s1.heap.objs.size + 1, s1.heap.objs.size], _, _, H1, rfl, I2, turn_enumT a (s1.heap.objs.size + 1) s1.heap.objs.size, ⟨⟨.none, at1⟩, ⟨_, at2, rfl, rfl⟩, Nat.succ_ne_self _, fun z => ?_, Nat.ne_of_lt la⟩, fun b hb => ?_, q⟩
  · rw [← z] at la
    exact absurd (Nat.lt_of_succ_lt la) (Nat.lt_irrefl _)
  · have ge : s1.heap.objs.size ≤ b := by
      rcases List.mem_cons.mp hb with z | z
      · rw [z]; exact Nat.le_add_right _ _
      · rw [List.mem_singleton.mp z]; exact Nat.le_refl _
    exact I1.fpOk ge (I1.hok.fresh ge)
/-- the items with their numbers -/
def enumP : Nat → List PV → List PV
  | _, [] => []
  | k, y :: ys => .tup [.int (k : Nat), y] :: enumP (k + 1) ys
theorem enumP_get : ∀ (ys : List PV) (k i : Nat), (enumP k ys)[i]? = (ys[i]?).map fun y => .tup [.int ((k + i : Nat) : Int), y]
  | [], k, i => by simp [enumP]
  | y :: ys, k, 0 => by simp [enumP]
  | y :: ys, k, i + 1 => by
    rw [enumP, List.getElem?_cons_succ, enumP_get ys (k + 1) i, List.getElem?_cons_succ]
    have : k + 1 + i = k + (i + 1) := by omega
    rw [this]
theorem enumP_len : ∀ (ys : List PV) (k : Nat), (enumP k ys).length = ys.length
  | [], _ => rfl
  | y :: ys, k => by rw [enumP, List.length_cons, List.length_cons, enumP_len ys]
section
variable {X : Cx} {cl : Nat → Addr} {W : WX} {pos : Pos}
theorem walks_enum {G : Hp} {a : Addr} {vs : List V} {ys : List PV} (h : TupAt X.K G a vs) (r : RepL X.K cl G vs ys) : Walks X.K cl (Itet X.K a) G (enumP 0 ys) := by
  intro i G2 H2 s1 s2
  have q : SqT X.K H2 a vs := sqt_mono (s1.trans s2) h
  refine ⟨fun y e => ?_, fun e => ⟨vs, q, by rw [r.length]; rw [enumP_len] at e; exact e⟩⟩
  rw [enumP_get] at e
  cases ey : ys[i]? with
  | none => rw [ey] at e; cases e
  | some y0 =>
    rw [ey] at e
    have e' := Option.some.inj e
    subst e'
    obtain ⟨v, ev, rv⟩ := r.get ey
    refine ⟨⟨vs, v, q, ev⟩, fun x H3 hy => ?_⟩
    obtain ⟨T, o, x0, rfl, ho, hn, rfl, hx⟩ := hy
    have ex := hx vs q
    rw [ev] at ex
    cases ex
    refine .inr ⟨T, _, hn, rfl, ?_⟩
    have gn : G2 T = none := s2.free hn
    refine .tup (tupAt_new ho) (by show 2 ≤ sizeLine; decide) (.cons ?_ (.cons ((rv.mono s1).mono (same_new gn)) .nil))
    rw [Nat.zero_add]
    exact .int _
def mEnum (m : M PV) : M (List PV) := bnd m fun x => match x with
  | .tup ys => ret (enumP 0 ys)
  | _ => fun _ => none
theorem im_enum {elts : List Expr} {kk : Nat} {e : Expr} {m : M PV} {p tpos : Pos} (h : EM X cl W e m) (hm : X.mg "enumerate" = none) (hg : Gl X "enumerate" := by rfl) (hs : starEach [e] X.env = [(false, eval e X.env)] := by rfl) : IM X cl W (.Tuple elts kk tpos) (.Call (.Name "enumerate" p) [e] [] pos) (mEnum m) := by
  obtain ⟨t, pe, d⟩ := h
  refine ⟨_, pi_enumT hg hm (pa_cons pe pa_nil hs) hs, fun F G H σ S ys S' R st hm2 k => ?_⟩
  rcases bnd_some hm2 with ⟨x, S1, e1, e2⟩ | ⟨c, fs, S1, _, e2⟩
  · cases x <;> try (cases e2; done)
    cases e2
    refine d F G H σ S _ _ st e1 fun v G1 H1 s1 st1 rv => ?_
    cases rv with
    | tup hs2 hz hr => exact ⟨_, _, rfl, sqt_mono st1.ex hs2, k _ G1 H1 s1 st1 (walks_enum hs2 hr)⟩
  · cases e2
end
end Kp
set_option Elab.async false
set_option linter.all false
set_option maxRecDepth 100000
set_option maxHeartbeats 2000000
namespace Kp
open PySem PyProof.Rows L2

/-! ### match over a text -/
/-- a pattern of texts: it takes u if u is one of ws, and binds nm -/
structure MPat (X : Cx) (p : Pattern) (ws : List Str) (nm : Option Str) : Prop where
  run : ∀ (pins : List (Addr × Obj)) (s : Shared) (σ : L2.St) (H : Hp) (u : Str) (t : Tok) (Q : Option (List (Str × Value)) → Shared → Prop), Inv X pins σ H s →
    (∀ s1, Inv X pins σ H s1 → Q (if u ∈ ws then some (nm.map (·, Value.str u t)).toList else none) s1) → wpAny (model X.prog X.w) X.A (matchPattern p X.env (.str u t)) Q X.xe s
/-- one of several -/
structure MFst (X : Cx) (ps : List Pattern) (ws : List Str) : Prop where
  run : ∀ (pins : List (Addr × Obj)) (s : Shared) (σ : L2.St) (H : Hp) (u : Str) (t : Tok) (Q : Option (List (Str × Value)) → Shared → Prop), Inv X pins σ H s →
    (∀ s1, Inv X pins σ H s1 → Q (if u ∈ ws then some [] else none) s1) → wpAny (model X.prog X.w) X.A (matchFirst ps X.env (.str u t)) Q X.xe s
section
variable {X : Cx} {cl : Nat → Addr} {W : WX} {pos : Pos}
theorem mp_str {w : Str} {j} {p2 : Pos} : MPat X (.MatchValue (.Constant (.str w) j p2) pos) [w] none := by
  refine ⟨fun pins s σ H u t Q I k => wpAny_matchPattern_Value ?_⟩
  refine thn (pe_str.run pins s σ H (fun v H1 => v = .str w ∧ H1 = H) I ⟨rfl, rfl⟩) fun x s1 ⟨v, H1, I1, rx, ev, eH⟩ => ?_
  subst ev
  subst eH
  refine thn (op_eq pins s1 σ H1 (.str u) (.str w) (.str u t) x (fun v H2 => v = .bl (decide (V.str u = V.str w)) ∧ H2 = H1) I1 ⟨t, rfl⟩ rx ⟨rfl, rfl, rfl⟩) fun c s2 ⟨v, H2, I2, rc, ev, eH⟩ => ?_
  subst ev
  subst eH
  have ec : c = .bool (decide (V.str u = V.str w)) := rc
  subst ec
  refine wpAny_truthy_bool ?_
  have q := k s2 I2
  by_cases h : u = w
  · subst h
    rw [if_pos List.mem_cons_self] at q
    rw [decide_eq_true rfl, if_pos rfl]
    exact q
  · rw [if_neg (by simpa using h)] at q
    rw [decide_eq_false (fun e => h (V.str.inj e)), if_neg Bool.false_ne_true]
    exact q
theorem mf_nil : MFst X [] [] := ⟨fun pins s σ H u t Q I k => wpAny_matchFirst_nil (by have := k s I; rw [if_neg (by simp)] at this; exact this)⟩
theorem mf_cons {p : Pattern} {ps : List Pattern} {ws us : List Str} (h1 : MPat X p ws none) (h2 : MFst X ps us) : MFst X (p :: ps) (ws ++ us) := by
  refine ⟨fun pins s σ H u t Q I k => wpAny_matchFirst_cons (h1.run pins s σ H u t _ I fun s1 I1 => ?_)⟩
  by_cases h : u ∈ ws
  · rw [if_pos h]
    have q := k s1 I1
    rw [if_pos (List.mem_append_left _ h)] at q
    exact q
  · rw [if_neg h]
    refine h2.run pins s1 σ H u t _ I1 fun s2 I2 => ?_
    have q := k s2 I2
    have e : (u ∈ ws ++ us) ↔ u ∈ us := by
      rw [List.mem_append]
      exact ⟨fun z => z.elim (fun y => absurd y h) id, .inr⟩
    by_cases h3 : u ∈ us
    · rw [if_pos h3]
      rw [if_pos (e.mpr h3)] at q
      exact q
    · rw [if_neg h3]
      rw [if_neg (fun z => h3 (e.mp z))] at q
      exact q
theorem mp_or {ps : List Pattern} {ws : List Str} (h : MFst X ps ws) (hn : namesOfAll (ps.take 1) = [] := by rfl) : MPat X (.MatchOr ps pos) ws none := by
  refine ⟨fun pins s σ H u t Q I k => wpAny_matchPattern_Or (h.run pins s σ H u t _ I fun s1 I1 => ?_)⟩
  have q := k s1 I1
  by_cases h2 : u ∈ ws
  · rw [if_pos h2]
    rw [if_pos h2] at q
    dsimp only
    rw [hn]
    exact q
  · rw [if_neg h2]
    rw [if_neg h2] at q
    exact q
theorem mp_as {p : Pattern} {ws : List Str} {n : Str} (h : MPat X p ws none) : MPat X (.MatchAs (some p) (some n) pos) ws (some n) := by
  refine ⟨fun pins s σ H u t Q I k => wpAny_matchPattern_As (h.run pins s σ H u t _ I fun s1 I1 => ?_)⟩
  have q := k s1 I1
  by_cases h2 : u ∈ ws
  · rw [if_pos h2]
    rw [if_pos h2] at q
    exact q
  · rw [if_neg h2]
    rw [if_neg h2] at q
    exact q
def atSlot : Option Nat → Str → L2.St → L2.St
  | some k, u, σ => σ.set k (some (.str u))
  | none, _, σ => σ
def putAt : Option Nat → Str → M Fl → M Fl
  | some k, u, m => bnd (put k (.str u)) fun _ => m
  | none, _, m => m
/-- the cases: texts, the slot that is bound, the suite -/
def tCases : List (List Str × Option Nat × TS) → Str → TS
  | [], _ => fun D σ H => D.nx σ H
  | (ws, i, tb) :: r, u => fun D σ H => if u ∈ ws then tb D (atSlot i u σ) H else tCases r u D σ H
structure PCs (X : Cx) (cs : List MatchCase) (tcs : List (List Str × Option Nat × TS)) : Prop where
  run : ∀ (pins : List (Addr × Obj)) (s : Shared) (σ : L2.St) (H : Hp) (D : Ends) (u : Str) (t : Tok) (f : Bool), Inv X pins σ H s → tCases tcs u D σ H → wpAny (model X.prog X.w) X.A (matchCases cs X.env (.str u t) f) (SP X pins D) X.xe s
theorem pcs_nil : PCs X [] [] := ⟨fun pins s σ H D u t f I h => wpAny_matchCases_nil ⟨σ, H, I, h⟩⟩
theorem pcs_cons {p : Pattern} {body : List Stmt} {cs : List MatchCase} {ws : List Str} {tb : TS} {tcs : List (List Str × Option Nat × TS)} (hp : MPat X p ws none) (hb : PSs X body tb) (hr : PCs X cs tcs) : PCs X (⟨p, none, body⟩ :: cs) ((ws, none, tb) :: tcs) := by
  refine ⟨fun pins s σ H D u t f I h => wpAny_matchCases_cons (hp.run pins s σ H u t _ I fun s1 I1 => ?_)⟩
  by_cases h2 : u ∈ ws
  · have h' : tb D σ H := by
      have : (if u ∈ ws then tb D σ H else tCases tcs u D σ H) := h
      rw [if_pos h2] at this
      exact this
    rw [if_pos h2]
    exact assignInOrder_nil (hb.run pins s1 σ H D I1 h')
  · have h' : tCases tcs u D σ H := by
      have : (if u ∈ ws then tb D σ H else tCases tcs u D σ H) := h
      rw [if_neg h2] at this
      exact this
    rw [if_neg h2]
    exact hr.run pins s1 σ H D u t false I1 h'
theorem pcs_as {p : Pattern} {body : List Stmt} {cs : List MatchCase} {ws : List Str} {tb : TS} {tcs : List (List Str × Option Nat × TS)} {x : Str} {i : Nat} (hN : X.N.Nodup) (hi : X.N[i]? = some x) (hx : Loc X.env.scope x) (hp : MPat X p ws (some x)) (hb : PSs X body tb) (hr : PCs X cs tcs)
    (hf : X.fn x = true ∨ X.env.scope.names.lookup x = some .local := by first | exact .inl rfl | exact .inr rfl | assumption) : PCs X (⟨p, none, body⟩ :: cs) ((ws, some i, tb) :: tcs) := by
  refine ⟨fun pins s σ H D u t f I h => wpAny_matchCases_cons (hp.run pins s σ H u t _ I fun s1 I1 => ?_)⟩
  by_cases h2 : u ∈ ws
  · have h' : tb D (σ.set i (some (.str u))) H := by
      have : (if u ∈ ws then tb D (σ.set i (some (.str u))) H else tCases tcs u D σ H) := h
      rw [if_pos h2] at this
      exact this
    rw [if_pos h2]
    exact assignInOrder_cons (wpAny_bindName (store_ok (v := .str u) I1 hN hi hx ⟨t, rfl⟩ (fun s2 I2 => assignInOrder_nil (hb.run pins s2 _ H D I2 h')) hf))
  · have h' : tCases tcs u D σ H := by
      have : (if u ∈ ws then tb D (σ.set i (some (.str u))) H else tCases tcs u D σ H) := h
      rw [if_neg h2] at this
      exact this
    rw [if_neg h2]
    exact hr.run pins s1 σ H D u t false I1 h'
def tMatch (te : TE) (tcs : List (List Str × Option Nat × TS)) : TS := fun D σ H => te σ H fun v H1 => ∃ u, v = .str u ∧ tCases tcs u D σ H1
theorem ps_match {e : Expr} {cs : List MatchCase} {te : TE} {tcs : List (List Str × Option Nat × TS)} (he : PE X e te) (hc : PCs X cs tcs) : PS X (.Match e cs pos) (tMatch te tcs) := by
  refine ⟨fun pins s σ H D I h => wpAny_Match (thn (he.run pins s σ H _ I h) fun v s1 ⟨x, H1, I1, rx, u, ex, q⟩ => ?_)⟩
  subst ex
  obtain ⟨t, rfl⟩ := rx
  exact hc.run pins s1 σ H1 D u t true I1 q
/-! #### computed -/
def mCases : List (List Str × Option Nat × M Fl) → Str → M Fl
  | [], _ => ret .nx
  | (ws, i, m) :: r, u => if u ∈ ws then (putAt i u m) else mCases r u
def DoesC (K : PySem.W.Frag) (cl : Nat → Addr) (W : WX) : List (List Str × Option Nat × TS) → List (List Str × Option Nat × M Fl) → Prop
  | [], [] => True
  | (ws, i, tb) :: r, (ws', i', m) :: r' => ws = ws' ∧ i = i' ∧ DoesS K cl W tb m ∧ DoesC K cl W r r'
  | _, _ => False
theorem does_cases {K : PySem.W.Frag} (u : Str) (hu : u.length ≤ sizeLine) : ∀ {tcs : List (List Str × Option Nat × TS)} {mcs : List (List Str × Option Nat × M Fl)}, DoesC K cl W tcs mcs → DoesS K cl W (tCases tcs u) (mCases mcs u)
  | [], [], _ => fun F G H σ S r D st hm hp => by
    cases hm
    exact hp σ G H (Same.refl _) st
  | (ws, i, tb) :: tr, (ws', i', m) :: mr, ⟨e1, e2, db, dr⟩ => fun F G H σ S r D st hm hp => by
    subst e1
    subst e2
    by_cases h : u ∈ ws
    · have hm' : (putAt i u m) S = some r := by
        have : (if u ∈ ws then (putAt i u m) else mCases mr u) S = some r := hm
        rw [if_pos h] at this
        exact this
      show (if u ∈ ws then tb D (atSlot i u σ) H else tCases tr u D σ H)
      rw [if_pos h]
      cases i with
      | none => exact db F G H σ S r D st hm' hp
      | some k =>
        rcases bnd_some hm' with ⟨y, S1, e1, e2⟩ | ⟨c, fs, S1, e1, _⟩
        · exact db F G H _ S1 r D (put_ok st e1 (.str u hu)) e2 hp
        · unfold put at e1
          split at e1 <;> cases e1
    · have hm' : mCases mr u S = some r := by
        have : (if u ∈ ws then (putAt i u m) else mCases mr u) S = some r := hm
        rw [if_neg h] at this
        exact this
      show (if u ∈ ws then tb D (atSlot i u σ) H else tCases tr u D σ H)
      rw [if_neg h]
      exact does_cases u hu dr F G H σ S r D st hm' hp
  | [], _ :: _, h => h.elim
  | _ :: _, [], h => h.elim
def mMatch (m : M PV) (mcs : List (List Str × Option Nat × M Fl)) : M Fl := bnd m fun x => match x with
  | .str u => mCases mcs u
  | _ => fun _ => none
/-- the cases of a match statement compute -/
def CM (X : Cx) (cl : Nat → Addr) (W : WX) (cs : List MatchCase) (mcs : List (List Str × Option Nat × M Fl)) : Prop := ∃ tcs, PCs X cs tcs ∧ DoesC X.K cl W tcs mcs
theorem cm_nil : CM X cl W [] [] := ⟨[], pcs_nil, trivial⟩
theorem cm_cons {p : Pattern} {body : List Stmt} {cs : List MatchCase} {ws : List Str} {m : M Fl} {mcs : List (List Str × Option Nat × M Fl)} (hp : MPat X p ws none) (hb : SMs X cl W body m) (hr : CM X cl W cs mcs) : CM X cl W (⟨p, none, body⟩ :: cs) ((ws, none, m) :: mcs) := by
  obtain ⟨tb, pb, db⟩ := hb
  obtain ⟨tr, pr, dr⟩ := hr
  exact ⟨_, pcs_cons hp pb pr, rfl, rfl, db, dr⟩
theorem cm_as {p : Pattern} {body : List Stmt} {cs : List MatchCase} {ws : List Str} {m : M Fl} {mcs : List (List Str × Option Nat × M Fl)} {x : Str} {i : Nat} (hN : X.N.Nodup) (hi : X.N[i]? = some x) (hx : Loc X.env.scope x) (hp : MPat X p ws (some x)) (hb : SMs X cl W body m) (hr : CM X cl W cs mcs)
    (hf : X.fn x = true ∨ X.env.scope.names.lookup x = some .local := by first | exact .inl rfl | exact .inr rfl | assumption) : CM X cl W (⟨p, none, body⟩ :: cs) ((ws, some i, m) :: mcs) := by
  obtain ⟨tb, pb, db⟩ := hb
  obtain ⟨tr, pr, dr⟩ := hr
  exact ⟨_, pcs_as hN hi hx hp pb pr hf, rfl, rfl, db, dr⟩
theorem sm_match {e : Expr} {cs : List MatchCase} {m : M PV} {mcs : List (List Str × Option Nat × M Fl)} (he : EM X cl W e m) (hc : CM X cl W cs mcs) : SM X cl W (.Match e cs pos) (mMatch m mcs) := by
  obtain ⟨t, pe, d⟩ := he
  obtain ⟨tcs, pc, dc⟩ := hc
  refine ⟨_, ps_match pe pc, fun F G H σ S r D st hm hp => ?_⟩
  refine d.stepS st hm hp fun y S1 v G1 H1 hm1 s1 st1 rv hp1 => ?_
  cases y <;> try (cases hm1; done)
  cases rv with
  | str _ hx => exact ⟨_, rfl, does_cases _ hx dc F G1 H1 σ S1 r D st1 hm1 hp1⟩
end
end Kp
set_option Elab.async false
set_option linter.all false
set_option maxRecDepth 100000
set_option maxHeartbeats 2000000
namespace Kp
open PySem PyProof.Rows L2

section
variable {X : Cx} {cl : Nat → Addr} {W : WX} {pos : Pos}
/-! ### methods that change their object -/
def isObjM (c : Nat) (m : Str) : PV → Bool
  | .obj d fs => decide (d = c) && (fs.lookup m).isNone
  | _ => false
def isM (i c : Nat) (m : Str) (S : Sto) : Bool := match S[i]? with
  | some (some (.o x)) => isObjM c m x
  | some (some (.i x)) => isObjM c m x
  | _ => false
theorem isObjM_at {K : PySem.W.Frag} {G H : Hp} {c : Nat} {m : Str} {a : Addr} {x : PV} (q : OwnAt K cl G H a x) (h : isObjM c m x = true) : ∃ dx gs, H a = some (.ins (cl c) dx gs) ∧ gs.lookup m = none := by
  cases x <;> try (cases h; done)
  simp only [isObjM, Bool.and_eq_true, decide_eq_true_eq, Option.isNone_iff_eq_none] at h
  obtain ⟨rfl, h2⟩ := h
  obtain ⟨dx, gs, e, r⟩ := q
  exact ⟨dx, gs, e, r.lookup_none h2⟩
theorem isM_at {K : PySem.W.Frag} {F : Fr} {G H : Hp} {σ : L2.St} {S : Sto} {i c : Nat} {m : Str} (st : StOk K cl F G H σ S) (h : isM i c m S = true) : ∃ a dx gs, σ[i]? = some (some (V.ref a)) ∧ H a = some (.ins (cl c) dx gs) ∧ gs.lookup m = none := by
  unfold isM at h
  split at h
  · rename_i x e
    obtain ⟨a, ea, _, _, q⟩ := st.own i _ e
    obtain ⟨dx, gs, e1, e2⟩ := isObjM_at q h
    exact ⟨a, dx, gs, ea, e1, e2⟩
  · rename_i x e
    obtain ⟨a, ea, _, _, q⟩ := st.inn i _ e
    obtain ⟨dx, gs, e1, e2⟩ := isObjM_at q h
    exact ⟨a, dx, gs, ea, e1, e2⟩
  · cases h
def mMethI (i c : Nat) (m : Str) (f : PV → List PV → Option (PV × RO)) (ms : List (M PV)) : M PV := fun S => if isM i c m S = true then bnd (mArgs ms) (fun xs => mIn i (fun x => f x xs)) S else none
theorem does_methI {i c n : Nat} {m : Str} {g : PV → List PV → Option (PV × RO)} {t : TA} {ms : List (M PV)} (da : Does X.K cl W (RL X.K cl) t (mArgs ms)) (hl : ms.length + 1 = n) :
    Does X.K cl W (RV X.K cl) (tMethS (cl c) m (spI X.K cl n g) (WE W) (tVar i) t) (mMethI i c m g ms) := by
  intro F G H σ S rr Q st hm hp
  unfold mMethI at hm
  split at hm <;> try (cases hm; done)
  rename_i ho
  obtain ⟨a, dx, gs, ev, e1, e2⟩ := isM_at st ho
  refine ⟨_, ev, a, dx, gs, rfl, e1, e2, ?_⟩
  refine da.step' (R2 := RV X.K cl) st hm hp fun y S1 v G1 H1 e1 hm1 s1 st1 rv hp1 => ?_
  exact spI_use st1 rv (by rw [rv.length, mArgs_len e1]; exact hl) ev hm1 hp1
theorem em_methI {k i c : Nat} {f : Addr} {fd : FuncData} {ps : List Str} {n : Nat} {g : PV → List PV → Option (PV × RO)} {m : Str} {apos : Pos} {e o : Expr} {es : List Expr} {ms : List (M PV)} {pl : Sem Bool} (tk : L2N.Takes X W) (c' : Cls X.K (cl c)) (hm : Meth X.K (cl c) m f) (F : FnOk X.prog X.w X.K X.mg X.base (L2N.CX X.prog X.w) k f fd ps (spI X.K cl n g)) (hr : Room k X.A) (hb : Binds X.K fd ps [])
    (ho : PE X o (tVar i)) (ha : AM X cl W (e :: es) (mArgs ms)) (hl : ms.length + 1 = n := by rfl)
    (hst : starEach (e :: es) X.env = (false, eval e X.env) :: starEach es X.env := by rfl) (hpl : (backTo pos (starEach es X.env)).any (·.1) = false := by rfl)
    (ht : eval (.Call (.Attribute o m apos) (e :: es) [] pos) X.env = (do
      let ov ← eval o X.env
      standAt apos.atName
      let (f, first) ← holding [ov] (getMethod ov m pl)
      callWith pos f first (backTo pos (starEach (e :: es) X.env)) (backToKw pos (keywordEach [] X.env))) := by rfl) :
    EM X cl W (.Call (.Attribute o m apos) (e :: es) [] pos) (mMethI i c m g ms) := by
  obtain ⟨t, pa, da⟩ := ha
  exact ⟨_, pe_methS' (E := WE W) ho c' hm F hr hb (fun σ => L2N.passAt tk σ) pa hst hpl ht, does_methI da hl⟩
theorem em_methI0 {k i c : Nat} {f : Addr} {fd : FuncData} {ps : List Str} {g : PV → List PV → Option (PV × RO)} {m : Str} {apos : Pos} {o : Expr} {pl : Sem Bool} (tk : L2N.Takes X W) (c' : Cls X.K (cl c)) (hm : Meth X.K (cl c) m f) (F : FnOk X.prog X.w X.K X.mg X.base (L2N.CX X.prog X.w) k f fd ps (spI X.K cl 1 g)) (hr : Room k X.A) (hb : Binds X.K fd ps [])
    (ho : PE X o (tVar i))
    (ht : eval (.Call (.Attribute o m apos) [] [] pos) X.env = (do
      let ov ← eval o X.env
      standAt apos.atName
      let (f, first) ← holding [ov] (getMethod ov m pl)
      callWith pos f first (backTo pos (starEach [] X.env)) (backToKw pos (keywordEach [] X.env))) := by rfl) :
    EM X cl W (.Call (.Attribute o m apos) [] [] pos) (mMethI i c m g []) :=
  ⟨_, pe_methS0' (E := WE W) ho c' hm F hr hb (fun σ => L2N.passAt tk σ) ht, does_methI (t := tNil) (fun F G H σ S rr Q st hm hp => by
    cases hm
    exact hp _ _ _ (Same.refl _) st .nil) rfl⟩

/-! ### x = C(..), kept to be changed -/
theorem doesF_make {c n : Nat} {g : PV → List PV → Option (PV × RO)} {t : TA} {ms : List (M PV)} (da : Does X.K cl W (RL X.K cl) t (mArgs ms)) (hl : ms.length + 1 = n) : DoesF X.K cl W (tMakeS (cl c) (spI X.K cl n g) (WE W) t) (mMake c g ms) := by
  intro F G H σ S rr Q st hm hp
  refine da.stepF st hm hp fun ys S2 vs G2 H2 e2 hm2 s2 st2 rvs hp2 => ?_
  intro x dx hx hdx ne
  refine ⟨by rw [List.length_cons, rvs.length, mArgs_len e2]; exact hl, ?_⟩
  unfold mkM at hm2
  have st3 : StOk X.K cl F G2 (upd (upd H2 dx (.own x)) x (.ins (cl c) dx [])) σ S2 := (st2.allocO hdx).allocO (by rw [upd_ne (Ne.symm ne)]; exact hx)
  have hs : Same H2 (upd (upd H2 dx (.own x)) x (.ins (cl c) dx [])) := (same_new hdx).trans (same_new (by rw [upd_ne (Ne.symm ne)]; exact hx))
  have gx : G2 x = none := st2.free hx
  simp only [] at hm2
  cases ef : g (.obj c []) ys with
  | none => rw [ef] at hm2; cases hm2
  | some z =>
    obtain ⟨x', ro⟩ := z
    rw [ef] at hm2
    refine ⟨x, vs, G2, .obj c [], x', ys, ro, rfl, st3.ex, gx, ⟨dx, [], upd_same, .nil⟩, rvs, ef, ?_⟩
    have gro : ∀ {G' H' : Hp}, GrownI x G2 (upd (upd H2 dx (.own x)) x (.ins (cl c) dx [])) G' H' → Grown G2 H2 G' H' := fun {G' H'} gg => by
      refine ⟨gg.g, gg.gh, grownI_new gg hx hs, fun a o e => ?_⟩
      rcases gg.new a o e with y | y
      · exact .inl y
      · by_cases z1 : a = x
        · rw [z1]; exact .inr hx
        · rw [upd_ne z1] at y
          by_cases z2 : a = dx
          · rw [z2]; exact .inr hdx
          · rw [upd_ne z2] at y
            exact .inr y
    cases ro with
    | ret y =>
      cases y <;> try (cases hm2; done)
      cases hm2
      intro v G' H' gg q' r'
      cases r'
      refine ⟨rfl, ?_⟩
      have gx' : G' x = none := by
        cases z : G' x with
        | none => rfl
        | some u =>
          rcases gg.new x u z with y | y
          · rw [gx] at y; cases y
          · rw [upd_same] at y; cases y
      have gr := gro gg
      exact hp2 x G' H' gr.g (st2.grown gr) gx' (st2.free0 hx) (st2.rfree hx) (st2.newSlot hx) q'
    | exc c' fs =>
      cases hm2
      exact fun d gs G' H' gg q' a b => hp2 d gs G' H' gg.g (st2.grown (gro gg)) ⟨a.1, st2.free0 (hs.free a.2), st2.rfree (hs.free a.2)⟩ b
theorem fm_make {x : Str} {k c : Nat} {f : Addr} {fd : FuncData} {ps : List Str} {n : Nat} {g : PV → List PV → Option (PV × RO)} {p : Pos} {e : Expr} {es : List Expr} {ms : List (M PV)} (tk : L2N.Takes X W) (M : Mk X.K (cl c) f) (F : FnOk X.prog X.w X.K X.mg X.base (L2N.CX X.prog X.w) k f fd ps (spI X.K cl n g)) (hr : Room (k + 1) X.A) (hm : X.mg x = some (.ref (cl c)))
    (hb : Binds X.K fd ps []) (ha : AM X cl W (e :: es) (mArgs ms)) (hl : ms.length + 1 = n := by rfl) (hg : Gl X x := by rfl) (hdb : (x == ("__debug__" : Str)) = false := by decide) (he : starEach (e :: es) X.env = (false, eval e X.env) :: starEach es X.env := by rfl) (hpl : (backTo pos (starEach es X.env)).any (·.1) = false := by rfl) :
    FM X cl W (.Call (.Name x p) (e :: es) [] pos) (mMake c g ms) := by
  obtain ⟨t, pa, da⟩ := ha
  exact ⟨_, pe_makeS (E := WE W) M F hr hg hm hb (fun σ => L2N.passAt tk σ) pa hdb he hpl, doesF_make da hl⟩

/-! ### C(e, .., k = v, ..), keyword-only parameters all told -/
def tApp (n m : Nat) (t tk : TA) : TA := fun σ H Q => t σ H fun vs H1 => tk σ H1 fun zs H2 => vs.length = n ∧ zs.length = m ∧ Q (vs ++ zs) H2
theorem mArgs_app : ∀ (ms ks : List (M PV)) (S : Sto), mArgs (ms ++ ks) S = bnd (mArgs ms) (fun xs => bnd (mArgs ks) fun ys => ret (xs ++ ys)) S
  | [], ks, S => by
    show mArgs ks S = bnd (mArgs ks) (fun ys => ret ys) S
    unfold bnd ret
    cases mArgs ks S with
    | none => rfl
    | some r => cases r <;> rfl
  | m :: ms, ks, S => by
    show bnd m (fun x => bnd (mArgs (ms ++ ks)) fun xs => ret (x :: xs)) S = bnd (bnd m fun x => bnd (mArgs ms) fun xs => ret (x :: xs)) (fun xs => bnd (mArgs ks) fun ys => ret (xs ++ ys)) S
    unfold bnd
    cases m S with
    | none => rfl
    | some r => cases r with
      | ex c fs S1 => rfl
      | ok x S1 =>
        dsimp only
        rw [mArgs_app ms ks S1]
        unfold bnd
        cases mArgs ms S1 with
        | none => rfl
        | some r => cases r with
          | ex c fs S2 => rfl
          | ok xs S2 =>
            unfold ret
            dsimp only
            cases mArgs ks S2 with
            | none => rfl
            | some r => cases r <;> rfl
theorem does_app {t tk : TA} {ms ks : List (M PV)} (d1 : Does X.K cl W (RL X.K cl) t (mArgs ms)) (d2 : Does X.K cl W (RL X.K cl) tk (mArgs ks)) : Does X.K cl W (RL X.K cl) (tApp ms.length ks.length t tk) (mArgs (ms ++ ks)) := by
  intro F G H σ S rr Q st hm hp
  rw [mArgs_app] at hm
  refine d1.step' (R2 := RL X.K cl) st hm hp fun xs S1 vs G1 H1 e1 hm1 s1 st1 r1 hp1 => ?_
  refine d2.step' (R2 := RL X.K cl) st1 hm1 hp1 fun ys S2 zs G2 H2 e2 hm2 s2 st2 r2 hp2 => ?_
  cases hm2
  exact ⟨by rw [r1.length, mArgs_len e1], by rw [r2.length, mArgs_len e2], hp2 _ _ _ (Same.refl _) st2 ((r1.mono s2).append r2)⟩
theorem run_makeKS {k n : Nat} {f C : Addr} {fd : FuncData} {ps ks : List Str} {sp : Sp} {E : L2.St → XK} {CX : CXT} {g : List Value → List Value → List Value} {gV : List V → List V → List V} {pins : List (Addr × Obj)} {σ : L2.St} {H : Hp} {s : Shared} {Q : VK} {us ws : List Value} {vs zs : List V} (M : Mk X.K C f) (F : FnOk X.prog X.w X.K X.mg X.base CX k f fd ps sp) (hr : Room (k + 1) X.A) (hb : KBn X.K fd ps (n + 1) ks g gV) (hx : PassesAt CX X σ (E σ))
    (I : Inv X pins σ H s) (r : Vals vs us) (rz : Vals zs ws) (l1 : vs.length = n) (l2 : zs.length = ks.length)
    (h : ∀ x dx, H x = none → H dx = none → dx ≠ x → sp (gV (.ref x :: vs) zs) (upd (upd H dx (.own x)) x (.ins C dx [])) (fun v H2 => v = .non ∧ Q (.ref x) H2) (E σ)) :
    wpAny (model X.prog X.w) X.A (call (.ref C) us (ks.zip ws)) (EP X pins σ Q) X.xe s := by
  have hq := h (s.heap.objs.size + 1) s.heap.objs.size (I.hok.fresh (Nat.le_succ _)) (I.hok.fresh (Nat.le_refl _)) (Nat.ne_of_lt (Nat.lt_succ_self _))
  have I2 := Inv.made (C := C) I
  have r1 : Vals (V.ref (s.heap.objs.size + 1) :: vs) (Value.ref (s.heap.objs.size + 1) :: us) := .cons rfl r
  have r2 := hb.rel r1 rz
  have n1 : (Value.ref (s.heap.objs.size + 1) :: us).length = n + 1 := by
    rw [List.length_cons, ← r.length, l1]
  refine wpAny_call (make_map (f := f) I.kIn M.makes M.init (beq_iff_eq.mp M.fn) (codeAny_mono (F.run _ X.stack _ _ ⟨Value.ref (s.heap.objs.size + 1) :: us, ks.zip ws⟩ (g (Value.ref (s.heap.objs.size + 1) :: us) ws) _ _ (E σ) (hr.make C us (ks.zip ws))
    (I2.env0.make C us (ks.zip ws)) (hb.to _ (Value.ref (s.heap.objs.size + 1) :: us) ws I2.kIn n1 (rz.length.symm.trans l2)) r2 hq) fun r s' hq' => ?_))
  cases r with
  | error e => exact hx pins _ _ e s' I2 hq'
  | ok fl =>
    cases fl with
    | ret u =>
      obtain ⟨v, H', I3, rv, ev, q3⟩ := I2.after hq'
      subst ev
      exact ⟨rv, ⟨V.ref (s.heap.objs.size + 1), H', I3, rfl, q3⟩⟩
    | next => exact False.elim hq'
    | brk => exact False.elim hq'
    | cont => exact False.elim hq'
theorem pe_makeKS {x : Str} {p : Pos} {k n : Nat} {f C : Addr} {fd : FuncData} {ps ks : List Str} {sp : Sp} {E : L2.St → XK} {CX : CXT} {g : List Value → List Value → List Value} {e : Expr} {es : List Expr} {kws : List Keyword} {t tk : TA} (M : Mk X.K C f) (F : FnOk X.prog X.w X.K X.mg X.base CX k f fd ps sp) (hr : Room (k + 1) X.A) (hg : Gl X x) (hm : X.mg x = some (.ref C)) (hb : KBn X.K fd ps (n + 1) ks g (fun vs zs => vs ++ zs)) (hx : ∀ σ, PassesAt CX X σ (E σ)) (ha : PA X (e :: es) t) (hkw : PK X kws tk)
    (hall : (backToKw pos (keywordEach kws X.env)).all (·.1.isSome) = true := by rfl) (hks : (backToKw pos (keywordEach kws X.env)).filterMap (·.1) = ks := by rfl) (hdb : (x == ("__debug__" : Str)) = false := by decide)
    (he : starEach (e :: es) X.env = (false, eval e X.env) :: starEach es X.env := by rfl) (hpl : ((backTo pos (starEach (e :: es) X.env)).any (·.1) || (backToKw pos (keywordEach kws X.env)).any (·.1.isNone)) = false := by rfl) :
    PE X (.Call (.Name x p) (e :: es) kws pos) (tMakeS C sp E (tApp n ks.length t tk)) := by
  refine ⟨fun pins s σ H Q I h => ?_⟩
  refine wpAny_Call_Name_kw (ld_glob I hg hm ?_ hdb)
  refine PySem.W.callWith_KW (h₀ := X.base) I.ok.mod.kin M.kp hall (thn (ha.run pos pins s σ H _ I h) fun us s1 ⟨vs, H1, I1, r, q⟩ => ?_) hpl he
  refine thn (hkw.run pos pins s1 σ H1 _ I1 q) fun ws s2 ⟨zs, H2, I2, rz, l1, l2, q2⟩ => ⟨I2.kIn, ?_⟩
  rw [hks]
  exact run_makeKS M F hr hb (hx σ) I2 r rz l1 l2 q2
/-- keyword arguments -/
def KM (X : Cx) (cl : Nat → Addr) (W : WX) (kws : List Keyword) (ms : List (M PV)) : Prop := ∃ t, PK X kws t ∧ Does X.K cl W (RL X.K cl) t (mArgs ms)
theorem km_nil : KM X cl W [] [] := ⟨_, pk_nil, fun F G H σ S rr Q st hm hp => by
  cases hm
  exact hp _ _ _ (Same.refl _) st .nil⟩
theorem km_cons {e : Expr} {nm : Option Str} {kpos : Pos} {kws : List Keyword} {m : M PV} {ms : List (M PV)} (h : EM X cl W e m) (hr : KM X cl W kws ms) : KM X cl W (⟨nm, e, kpos⟩ :: kws) (m :: ms) := by
  obtain ⟨t, p, d⟩ := h
  obtain ⟨u, q, du⟩ := hr
  refine ⟨_, pk_cons p q, fun F G H σ S rr Q st hm hp => ?_⟩
  refine d.step (R2 := RL X.K cl) st hm hp fun y S1 v G1 H1 hm1 s1 st1 rv hp1 => ?_
  refine du.step (R2 := RL X.K cl) st1 hm1 hp1 fun ys S2 vs G2 H2 hm2 s2 st2 rvs hp2 => ?_
  cases hm2
  exact hp2 _ _ _ (Same.refl _) st2 (.cons (rv.mono s2) rvs)
theorem em_makeK {x : Str} {k c : Nat} {f : Addr} {fd : FuncData} {ps ks : List Str} {n : Nat} {g : PV → List PV → Option (PV × RO)} {gv : List Value → List Value → List Value} {p : Pos} {e : Expr} {es : List Expr} {kws : List Keyword} {ms mk : List (M PV)} (tk : L2N.Takes X W) (M : Mk X.K (cl c) f) (F : FnOk X.prog X.w X.K X.mg X.base (L2N.CX X.prog X.w) k f fd ps (spI X.K cl n g)) (hr : Room (k + 1) X.A) (hm : X.mg x = some (.ref (cl c)))
    (hb : KBn X.K fd ps (ms.length + 1) ks gv (fun vs zs => vs ++ zs)) (ha : AM X cl W (e :: es) (mArgs ms)) (hkw : KM X cl W kws mk) (hl : (ms ++ mk).length + 1 = n := by rfl) (hkl : mk.length = ks.length := by rfl) (hg : Gl X x := by rfl)
    (hall : (backToKw pos (keywordEach kws X.env)).all (·.1.isSome) = true := by rfl) (hks : (backToKw pos (keywordEach kws X.env)).filterMap (·.1) = ks := by rfl) (hdb : (x == ("__debug__" : Str)) = false := by decide)
    (he : starEach (e :: es) X.env = (false, eval e X.env) :: starEach es X.env := by rfl) (hpl : ((backTo pos (starEach (e :: es) X.env)).any (·.1) || (backToKw pos (keywordEach kws X.env)).any (·.1.isNone)) = false := by rfl) :
    EM X cl W (.Call (.Name x p) (e :: es) kws pos) (mMake c g (ms ++ mk)) := by
  obtain ⟨t, pa, da⟩ := ha
  obtain ⟨u, pk, dk⟩ := hkw
  have d := does_app da dk
  rw [hkl] at d
  exact ⟨_, pe_makeKS (E := WE W) M F hr hg hm hb (fun σ => L2N.passAt tk σ) pa pk hall hks hdb he hpl, does_make d hl⟩

/-! ### self.f += n -/
def pIncF (c : Nat) (f : Str) (n : Int) : PV → Option PV
  | .obj d fs => if d = c ∧ fs.length < 100 then match fs.lookup f with
    | some (.int k) => some (.obj d (putFP f (.int (k + n)) fs))
    | _ => none
    else none
  | _ => none
def mIncF (i c : Nat) (f : Str) (n : Int) : M Fl := bnd (updO i (pIncF c f n)) fun _ => ret .nx
theorem sm_incF {o : Expr} {i c : Nat} {f : Str} {n : Nat} {j} {p2 pos' : Pos} (hc : Cls X.K (cl c)) (hn : NoAttr X.K (cl c) f) (ho : PE X o (tVar i)) :
    SM X cl W (.AugAssign (.Attribute o f pos') .Add (.Constant (.int n) j p2) pos) (mIncF i c f n) := by
  refine ⟨_, ps_fldaug ho pe_int in_add, fun F G H σ S r D st hm hp => ?_⟩
  rcases bnd_some hm with ⟨u, S3, e3, e4⟩ | ⟨c', fs, S3, e3, _⟩
  · cases e4
    obtain ⟨a, x, x', S', e5, ea, ga, q, ef, fin⟩ := updO_use st e3
    cases e5
    refine ⟨_, ea, ?_⟩
    unfold pIncF at ef
    cases x <;> try (cases ef; done)
    dsimp only at ef
    split at ef <;> try (cases ef; done)
    rename_i cc
    obtain ⟨rfl, hlen⟩ := cc
    split at ef <;> try (cases ef; done)
    rename_i k0 ek
    cases ef
    obtain ⟨dx, gs, eh, rf⟩ := q
    obtain ⟨w, ew, rw'⟩ := rf.lookup ek
    cases rw'
    refine ⟨a, _, dx, gs, _, rfl, eh, hc, hn, ew, ?_⟩
    exact ⟨_, _, rfl, rfl, dx, gs, eh, by rw [rf.length]; omega, hp σ G _ (Same.refl _) (fin _ ⟨dx, _, upd_same, repF_put (.int _) rf⟩)⟩
  · obtain ⟨a, x, x', S', e5, _⟩ := updO_use st e3
    cases e5

/-! ### split, insert, extend -/
def pSplit (x y : PV) : Option PV := match x, y with
  | .str a, .str b => if (b.length == 0) = false ∧ a.length + 2 ≤ sizeLine ∧ (Txt.split a b).all (fun z => decide (z.length ≤ sizeLine)) = true then some (.lst ((Txt.split a b).map PV.str)) else none
  | _, _ => none
theorem repL_strsB {K : PySem.W.Frag} {H : Hp} : ∀ {ys : List Str}, ys.all (fun z => decide (z.length ≤ sizeLine)) = true → RepL K cl H (ys.map V.str) (ys.map PV.str)
  | [], _ => .nil
  | y :: ys, h => by
    simp only [List.all_cons, Bool.and_eq_true, decide_eq_true_eq] at h
    exact .cons (.str _ h.1) (repL_strsB h.2)
theorem bs_split : BinS X.K cl (fun x y H Q => ∃ a b, x = .str a ∧ [y] = [V.str b] ∧ (b.length == 0) = false ∧ a.length + 2 ≤ sizeLine ∧ rNewStrs (Txt.split a b) H Q) pSplit := by
  intro G H v u x y z Q e rv ru hz k
  unfold pSplit at hz
  cases x <;> cases y <;> try (cases hz; done)
  dsimp only at hz
  split at hz <;> try (cases hz; done)
  rename_i c
  cases hz
  cases rv
  cases ru
  refine ⟨_, _, rfl, rfl, c.1, c.2.1, fun p hp => k _ _ (.inr ⟨p, _, hp, rfl, .lst upd_same ?_ (repL_strsB c.2.2)⟩)⟩
  rw [List.length_map]
  exact Nat.le_trans (PyProof.Rows.split_le _ _) c.2.1
theorem em_split {o e : Expr} {apos : Pos} {mo me : M PV} (ho : EM X cl W o mo) (he : EM X cl W e me) (hs : starEach [e] X.env = [(false, eval e X.env)] := by rfl) (hbase : attributeBase o "split" X.env (eval o X.env) = eval o X.env := by rfl) (hline : (apos.endLine == pos.line) = true := by rfl) :
    EM X cl W (.Call (.Attribute o "split" apos) [e] [] pos) (mBinS pSplit mo me) := em_m1 PySem.F.slot_str_split PySem.F.type_str_split mt_split bs_split ho he hs hbase hline
def fIns (x : PV) (xs : List PV) : Option (PV × PV) := match x, xs with
  | .lst ys, [.int i, y] => if ys.length < sizeLine ∧ 0 ≤ i ∧ i < 2 ^ 63 then some (.lst (ys.take i.toNat ++ [y] ++ ys.drop i.toNat), .non) else none
  | _, _ => none
theorem mto_ins : MtO X.K cl (fun x vs H Q => ∃ (l : Addr) (xs : List V) (i : Int) (y : V), x = .ref l ∧ vs = [.int i, y] ∧ H l = some (.lst xs) ∧ xs.length < sizeLine ∧ 0 ≤ i ∧ i < 2 ^ 63 ∧
    Q .non (upd H l (.lst (xs.take i.toNat ++ [y] ++ xs.drop i.toNat)))) fIns := by
  intro G H a x vs xs x' z Q e ga q rl h k
  unfold fIns at h
  split at h <;> try (cases h; done)
  split at h <;> try (cases h; done)
  rename_i ys i y hl
  cases h
  obtain ⟨ws, eh, hz, r⟩ := q
  cases rl with
  | cons ri rn =>
    cases ri
    cases rn with
    | cons ry rn =>
      cases rn
      have hw : ws.length < sizeLine := by rw [r.length]; exact hl.1
      exact ⟨a, ws, _, _, rfl, rfl, eh, hw, hl.2.1, hl.2.2, k _ _ ⟨_, upd_same, by
        rw [List.length_append, List.length_append, List.length_take, List.length_drop, List.length_singleton]
        omega, ((r.take _).append (.one ry)).append (r.drop _)⟩ .non⟩
def mIns (i : Nat) (m n : M PV) : M Fl := mDrop (mMt "list" i fIns [m, n])
theorem sm_ins {o e e2 : Expr} {apos p : Pos} {i : Nat} {m n : M PV} (ho : PE X o (tVar i)) (he : EM X cl W e m) (he2 : EM X cl W e2 n)
    (hbase : attributeBase o "insert" X.env (eval o X.env) = eval o X.env := by rfl)
    (hfew : ((backTo p (starEach [e, e2] X.env)).all (fun x => !x.1) && (backToKw p (keywordEach [] X.env)).all (fun x => x.1.isSome)
      && decide ([e, e2].length + ([] : List Keyword).length + (if ([] : List Keyword).isEmpty then 0 else 1) < 30)) = true := by rfl)
    (hline : (apos.endLine == p.line) = true := by rfl) (hs : starEach [e, e2] X.env = (false, eval e X.env) :: starEach [e2] X.env := by rfl) (hs2 : starEach [e2] X.env = (false, eval e2 X.env) :: starEach [] X.env := by rfl) (hplain : (backTo p (starEach [e2] X.env)).any (·.1) = false := by rfl)
    (hsw : swapsWith (.Call (.Attribute o "insert" apos) [e, e2] [] p) none pos.line X.env = pure false := by rfl) :
    SM X cl W (.Expr (.Call (.Attribute o "insert" apos) [e, e2] [] p) pos) (mIns i m n) :=
  sm_expr (em_mt PySem.F.plainAttrs_list PySem.F.slot_list_insert PySem.F.type_list_insert mt_insert mto_ins ho (am_cons he (am_cons he2 am_nil hs2) hs) hbase hfew hline hs hplain) hsw
def fExt (x : PV) (xs : List PV) : Option (PV × PV) := match x, xs with
  | .lst ys, [.lst zs] => if ys.length + zs.length ≤ sizeLine then some (.lst (ys ++ zs), .non) else none
  | _, _ => none
theorem mto_ext : MtO X.K cl rExtend fExt := by
  intro G H a x vs xs x' z Q e ga q rl h k
  unfold fExt at h
  split at h <;> try (cases h; done)
  split at h <;> try (cases h; done)
  rename_i ys zs hl
  cases h
  obtain ⟨ws, eh, hz, r⟩ := q
  cases rl with
  | cons ry rn =>
    cases rn
    cases ry with
    | lst hs hz2 r2 =>
      have hw := r.length
      have hw2 := r2.length
      exact ⟨a, _, ws, _, rfl, rfl, eh, e _ _ hs, by omega, k _ _ ⟨_, upd_same, by rw [List.length_append]; omega, r.append r2⟩ .non⟩
def mExt (i : Nat) (m : M PV) : M Fl := mDrop (mMt "list" i fExt [m])
theorem sm_ext {o e : Expr} {apos p : Pos} {i : Nat} {m : M PV} (ho : PE X o (tVar i)) (he : EM X cl W e m)
    (hbase : attributeBase o "extend" X.env (eval o X.env) = eval o X.env := by rfl)
    (hfew : ((backTo p (starEach [e] X.env)).all (fun x => !x.1) && (backToKw p (keywordEach [] X.env)).all (fun x => x.1.isSome)
      && decide ([e].length + ([] : List Keyword).length + (if ([] : List Keyword).isEmpty then 0 else 1) < 30)) = true := by rfl)
    (hline : (apos.endLine == p.line) = true := by rfl) (hs : starEach [e] X.env = (false, eval e X.env) :: starEach [] X.env := by rfl) (hplain : (backTo p (starEach [] X.env)).any (·.1) = false := by rfl)
    (hsw : swapsWith (.Call (.Attribute o "extend" apos) [e] [] p) none pos.line X.env = pure false := by rfl) :
    SM X cl W (.Expr (.Call (.Attribute o "extend" apos) [e] [] p) pos) (mExt i m) :=
  sm_expr (em_mt PySem.F.plainAttrs_list PySem.F.slot_list_extend PySem.F.type_list_extend mt_extend mto_ext ho (am_cons he am_nil hs) hbase hfew hline hs hplain) hsw

/-- a list of two lists, to be changed -/
def pCat (x y : PV) : Option PV := match x, y with
  | .lst a, .lst b => if a.length + b.length ≤ sizeLine then some (.lst (a ++ b)) else none
  | _, _ => none
theorem fm_cat {a b : Expr} {ma mb : M PV} (ha : EM X cl W a ma) (hb : EM X cl W b mb) : FM X cl W (.BinOp a .Add b pos) (mBin pCat ma mb) := by
  obtain ⟨ta, pa, da⟩ := ha
  obtain ⟨tb, pb, db⟩ := hb
  refine ⟨_, pe_op op_cat pa pb, fun F G H σ S rr Q st hm hp => ?_⟩
  refine da.stepF st hm hp fun x S1 v G1 H1 e1 hm1 s1 st1 rv hp1 => ?_
  refine db.stepF st1 hm1 hp1 fun y S2 u G2 H2 e2 hm2 s2 st2 ru hp2 => ?_
  obtain ⟨z, ez, rfl⟩ := lift_eq hm2
  have rv2 := rv.mono s2
  unfold pCat at ez
  cases x <;> cases y <;> try (cases ez; done)
  dsimp only at ez
  split at ez <;> try (cases ez; done)
  rename_i c
  cases ez
  cases rv2 with
  | @lst a1 vs1 xs1 hs z1 hr =>
    cases ru with
    | @lst a2 vs2 xs2 hs2 z2 hr2 =>
      have hz : (vs1 ++ vs2).length ≤ sizeLine := by rw [List.length_append, hr.length, hr2.length]; exact c
      exact ⟨_, _, _, _, rfl, rfl, st2.ex _ _ hs, st2.ex _ _ hs2, by rw [hr.length, hr2.length]; exact c, fun p hn => postF_new hp2 st2 hn ⟨_, upd_same, hz, hr.append hr2⟩⟩

/-! ### names of the text's top that hold a text, a tuple of texts -/
def TopStr (mg : Str → Option Value) (x u : Str) : Prop := ∃ t, mg x = some (.str u t)
def TopTup (K : PySem.W.Frag) (mg : Str → Option Value) (x : Str) (us : List Str) : Prop := ∃ (a : Addr) (o : Obj) (its : Array Value) (n : Nat), mg x = some (.ref a) ∧ K.lookup a = some o ∧ o.cls = .type "tuple" ∧ o.dict = none ∧ o.data = .seq its n ∧ its.size ≤ sizeLine ∧ Vals (us.map V.str) its.toList
theorem em_gstr {x u : Str} (h : TopStr X.mg x u) (hl : u.length ≤ sizeLine := by decide) (hg : Gl X x := by rfl) (hd : (x == ("__debug__" : Str)) = false := by decide) : EM X cl W (.Name x pos) (mK (.str u)) := by
  obtain ⟨t, e⟩ := h
  exact em_c (pe_glob (v := .str u) hg e ⟨t, rfl⟩ hd) fun _ _ _ => .str _ hl
theorem em_gtup {x : Str} {us : List Str} (h : TopTup X.K X.mg x us) (hl : us.all (fun z => decide (z.length ≤ sizeLine)) = true := by decide) (hg : Gl X x := by rfl) (hd : (x == ("__debug__" : Str)) = false := by decide) : EM X cl W (.Name x pos) (mK (.tup (us.map PV.str))) := by
  obtain ⟨a, o, its, n, e, h1, h2, h3, h4, h5, h6⟩ := h
  refine ⟨_, pe_glob (v := .ref a) hg e rfl hd, fun F G H σ S r' Q st hm hp => ?_⟩
  cases hm
  refine hp _ G H (Same.refl _) st (.tup (.inr ⟨o, its, n, h1, h2, h3, h4, h5, h6⟩) ?_ (repL_strsB hl))
  rw [h6.length]
  exact h5
end

/-! ### a def with keyword-only defaults -/
section
variable {P : Program} {w : World} {K : PySem.W.Frag} {mg : Str → Option Value} {base : Heap} {cl : Nat → Addr}
theorem fnIK {x qual : Str} {st : Stmt} {dvs : List V} {kws : List (Str × V)} {f : Addr} {fd : FuncData} {N ps : List Str} {k : Nat} {m : M Fl} (F : FunD K x qual (defArgs st) (defBody st) (defScope st) dvs kws f fd) (S : FnScope N ps (defScope st))
    (hb : ∀ (cdv : Value) (A : Around) (outer : List Env) (s : Shared) (H : Hp) (E : XK), Room k (A.deeper (envOfC qual (defScope st) s.heap.objs.size f cdv)) →
      SMs (cxOf (L2N.CX P w) P w K mg base N qual (defScope st) f cdv A outer s H E) cl (fun c d _ H' => E c d H') (defBody st) m) :
    FnOk P w K mg base (L2N.CX P w) (k + 1) f fd ps (spI K cl ps.length (runI N.length m)) := by
  have hps : ps.length ≤ N.length := by
    have := congrArg List.length S.pre
    rw [List.length_take] at this
    omega
  refine F.ok S (fun vs H Q E h => h.1) fun cdv A outer s H vs Q E hr hsp => ?_
  obtain ⟨t, pt, dt⟩ := hb cdv A outer s H E hr
  obtain ⟨hl, a, ws, G, x, x', xs, r, rfl, e, ga, ho, rl, hf, hq⟩ := hsp
  refine ⟨t, pt, ?_⟩
  have st0 := stOk_startI (N := N) e ga ho rl (by rw [List.length_cons] at hl; omega)
  unfold runI endI at hf
  have gr : ∀ {G' H' : Hp} {σ' : L2.St} {S' : Sto} {y : PV}, Same G G' → StOk K cl ⟨G, H, fun i => if i = 0 then some a else none, fun _ => none⟩ G' H' σ' (some (.i y) :: S') → GrownI a G H G' H' ∧ OwnAt K cl G' H' a y := fun {G' H' σ' S' y} s k => by
    refine ⟨⟨s, k.ex, fun b o n h => k.frame b o h (fun i z => ?_), k.gnew⟩, ?_⟩
    · dsimp only at z
      split at z
      · cases z; exact n rfl
      · cases z
    · obtain ⟨b, _, _, e1, q⟩ := k.inn 0 y rfl
      have e1' : some a = some b := e1
      cases e1'
      exact q
  split at hf
  · rename_i x1 S' em
    cases hf
    exact dt _ G H _ _ _ _ st0 em fun σ' G' H' s' k' => hq .non G' H' (gr s' k').1 (gr s' k').2 .non
  · rename_i y x1 S' em
    cases hf
    exact dt _ G H _ _ _ _ st0 em fun v σ' G' H' s' k' r' => hq v G' H' (gr s' k').1 (gr s' k').2 r'
  · rename_i c fs x1 S' em
    cases hf
    exact dt _ G H _ _ _ _ st0 em fun d gs σ' G' H' s' k' a b => hq d gs G' H' (gr s' k').1 (gr s' k').2 ⟨a.1, a.2.1⟩ b
  · cases hf
end
end Kp
set_option Elab.async false
set_option linter.all false
set_option maxRecDepth 100000
set_option maxHeartbeats 2000000
namespace Kp
open PySem PyProof.Rows L2
/-- an own class's instances are of no built-in type (but object) -/
def ocF (k : Nat) : Nat → Option Bool := fun c => if c = k then some false else none
theorem isa_TF {K : PySem.W.Frag} {cl : Nat → Addr} {k : Nat} {T : String} (h : OwnC K (cl k)) (hk : PySem.W.kitOne K (.ref (cl k)) (.type T) = some false) : IsaOk K cl (.type T) (ansT (ocF k) T) := isa_T fun c b e => by
  unfold ocF at e
  split at e
  · rename_i q
    cases e
    rw [q]
    exact ⟨h.ins, hk⟩
  · cases e
end Kp
set_option Elab.async false
set_option linter.all false
set_option maxRecDepth 100000
set_option maxHeartbeats 4000000
namespace A08
open PySem PyProof.Rows L2 Kp
def top (i : Nat) : Stmt := PySem.Challenge.pw_keptacross_k08_log_lines.main.body.getD i (.Pass ⟨0, 0, 0, 0⟩)
abbrev s_BadTerm___init__ : Stmt := inClass (top 3) 0
abbrev N_BadTerm___init__ : List Str := ["self", "word"]
theorem sc_BadTerm___init__ : FnScope N_BadTerm___init__ ["self", "word"] (defScope s_BadTerm___init__) := ⟨rfl, rfl, rfl, by decide +kernel, rfl, by decide +kernel, by decide +kernel⟩
abbrev s_BadLine___init__ : Stmt := inClass (top 4) 0
abbrev N_BadLine___init__ : List Str := ["self", "line", "word"]
theorem sc_BadLine___init__ : FnScope N_BadLine___init__ ["self", "line", "word"] (defScope s_BadLine___init__) := ⟨rfl, rfl, rfl, by decide +kernel, rfl, by decide +kernel, by decide +kernel⟩
abbrev s_deep : Stmt := top 7
abbrev N_deep : List Str := ["thing", "part"]
theorem sc_deep : FnScope N_deep ["thing"] (defScope s_deep) := ⟨rfl, rfl, rfl, by decide +kernel, rfl, by decide +kernel, by decide +kernel⟩
abbrev s_is_word : Stmt := top 8
abbrev N_is_word : List Str := ["thing", "letter"]
theorem sc_is_word : FnScope N_is_word ["thing"] (defScope s_is_word) := ⟨rfl, rfl, rfl, by decide +kernel, rfl, by decide +kernel, by decide +kernel⟩
abbrev s_is_note : Stmt := top 9
abbrev N_is_note : List Str := ["thing"]
theorem sc_is_note : FnScope N_is_note ["thing"] (defScope s_is_note) := ⟨rfl, rfl, rfl, by decide +kernel, rfl, by decide +kernel, by decide +kernel⟩
abbrev s_is_token : Stmt := top 10
abbrev N_is_token : List Str := ["thing"]
theorem sc_is_token : FnScope N_is_token ["thing"] (defScope s_is_token) := ⟨rfl, rfl, rfl, by decide +kernel, rfl, by decide +kernel, by decide +kernel⟩
abbrev s_is_pattern : Stmt := top 14
abbrev N_is_pattern : List Str := ["thing", "place", "item"]
theorem sc_is_pattern : FnScope N_is_pattern ["thing"] (defScope s_is_pattern) := ⟨rfl, rfl, rfl, by decide +kernel, rfl, by decide +kernel, by decide +kernel⟩
abbrev s_are_items : Stmt := top 15
abbrev N_are_items : List Str := ["thing", "item"]
theorem sc_are_items : FnScope N_are_items ["thing"] (defScope s_are_items) := ⟨rfl, rfl, rfl, by decide +kernel, rfl, by decide +kernel, by decide +kernel⟩
abbrev s_is_way : Stmt := top 16
abbrev N_is_way : List Str := ["thing", "gap", "told", "item"]
theorem sc_is_way : FnScope N_is_way ["thing", "gap"] (defScope s_is_way) := ⟨rfl, rfl, rfl, by decide +kernel, rfl, by decide +kernel, by decide +kernel⟩
abbrev s_is_scope : Stmt := top 17
abbrev N_is_scope : List Str := ["thing", "told"]
theorem sc_is_scope : FnScope N_is_scope ["thing"] (defScope s_is_scope) := ⟨rfl, rfl, rfl, by decide +kernel, rfl, by decide +kernel, by decide +kernel⟩
abbrev s_Term___init__ : Stmt := inClass (top 18) 0
abbrev N_Term___init__ : List Str := ["self", "name", "pattern", "ways", "scope", "first", "turn", "items", "gap", "rows", "row"]
theorem sc_Term___init__ : FnScope N_Term___init__ ["self", "name", "pattern", "ways", "scope", "first", "turn"] (defScope s_Term___init__) := ⟨rfl, rfl, rfl, by decide +kernel, rfl, by decide +kernel, by decide +kernel⟩
abbrev s_keyed_term : Stmt := top 19
abbrev N_keyed_term : List Str := ["term", "first", "turn"]
theorem sc_keyed_term : FnScope N_keyed_term ["term"] (defScope s_keyed_term) := ⟨rfl, rfl, rfl, by decide +kernel, rfl, by decide +kernel, by decide +kernel⟩
abbrev s_Lines___init__ : Stmt := inClass (top 21) 0
abbrev N_Lines___init__ : List Str := ["self", "texts"]
theorem sc_Lines___init__ : FnScope N_Lines___init__ ["self", "texts"] (defScope s_Lines___init__) := ⟨rfl, rfl, rfl, by decide +kernel, rfl, by decide +kernel, by decide +kernel⟩
abbrev s_Lines_line_number : Stmt := inClass (top 21) 1
abbrev N_Lines_line_number : List Str := ["self"]
theorem sc_Lines_line_number : FnScope N_Lines_line_number ["self"] (defScope s_Lines_line_number) := ⟨rfl, rfl, rfl, by decide +kernel, rfl, by decide +kernel, by decide +kernel⟩
abbrev s_Lines_line_words : Stmt := inClass (top 21) 2
abbrev N_Lines_line_words : List Str := ["self"]
theorem sc_Lines_line_words : FnScope N_Lines_line_words ["self"] (defScope s_Lines_line_words) := ⟨rfl, rfl, rfl, by decide +kernel, rfl, by decide +kernel, by decide +kernel⟩
abbrev s_Lines_first_word : Stmt := inClass (top 21) 3
abbrev N_Lines_first_word : List Str := ["self"]
theorem sc_Lines_first_word : FnScope N_Lines_first_word ["self"] (defScope s_Lines_first_word) := ⟨rfl, rfl, rfl, by decide +kernel, rfl, by decide +kernel, by decide +kernel⟩
abbrev s_Lines_many_words : Stmt := inClass (top 21) 4
abbrev N_Lines_many_words : List Str := ["self"]
theorem sc_Lines_many_words : FnScope N_Lines_many_words ["self"] (defScope s_Lines_many_words) := ⟨rfl, rfl, rfl, by decide +kernel, rfl, by decide +kernel, by decide +kernel⟩
abbrev s_Lines_word_at : Stmt := inClass (top 21) 5
abbrev N_Lines_word_at : List Str := ["self", "k", "row"]
theorem sc_Lines_word_at : FnScope N_Lines_word_at ["self", "k"] (defScope s_Lines_word_at) := ⟨rfl, rfl, rfl, by decide +kernel, rfl, by decide +kernel, by decide +kernel⟩
abbrev s_Lines_fail_at : Stmt := inClass (top 21) 7
abbrev N_Lines_fail_at : List Str := ["self", "k"]
theorem sc_Lines_fail_at : FnScope N_Lines_fail_at ["self", "k"] (defScope s_Lines_fail_at) := ⟨rfl, rfl, rfl, by decide +kernel, rfl, by decide +kernel, by decide +kernel⟩
abbrev s_Lines_name_at : Stmt := inClass (top 21) 8
abbrev N_Lines_name_at : List Str := ["self", "k", "told"]
theorem sc_Lines_name_at : FnScope N_Lines_name_at ["self", "k"] (defScope s_Lines_name_at) := ⟨rfl, rfl, rfl, by decide +kernel, rfl, by decide +kernel, by decide +kernel⟩
abbrev s_Lines_item_at : Stmt := inClass (top 21) 9
abbrev N_Lines_item_at : List Str := ["self", "k", "notes", "told"]
theorem sc_Lines_item_at : FnScope N_Lines_item_at ["self", "k", "notes"] (defScope s_Lines_item_at) := ⟨rfl, rfl, rfl, by decide +kernel, rfl, by decide +kernel, by decide +kernel⟩
abbrev s_Lines_want_word : Stmt := inClass (top 21) 11
abbrev N_Lines_want_word : List Str := ["self", "word"]
theorem sc_Lines_want_word : FnScope N_Lines_want_word ["self", "word"] (defScope s_Lines_want_word) := ⟨rfl, rfl, rfl, by decide +kernel, rfl, by decide +kernel, by decide +kernel⟩
abbrev s_Lines_close_at : Stmt := inClass (top 21) 12
abbrev N_Lines_close_at : List Str := ["self", "k"]
theorem sc_Lines_close_at : FnScope N_Lines_close_at ["self", "k"] (defScope s_Lines_close_at) := ⟨rfl, rfl, rfl, by decide +kernel, rfl, by decide +kernel, by decide +kernel⟩
abbrev s_line_of : Stmt := top 23
abbrev N_line_of : List Str := ["word", "row"]
theorem sc_line_of : FnScope N_line_of ["word", "row"] (defScope s_line_of) := ⟨rfl, rfl, rfl, by decide +kernel, rfl, by decide +kernel, by decide +kernel⟩
abbrev s_write_term : Stmt := top 24
abbrev N_write_term : List Str := ["term", "rows", "way"]
theorem sc_write_term : FnScope N_write_term ["term"] (defScope s_write_term) := ⟨rfl, rfl, rfl, by decide +kernel, rfl, by decide +kernel, by decide +kernel⟩
abbrev s_items_from : Stmt := top 25
abbrev N_items_from : List Str := ["lines", "at", "least", "most", "notes", "row"]
theorem sc_items_from : FnScope N_items_from ["lines", "at", "least", "most", "notes"] (defScope s_items_from) := ⟨rfl, rfl, rfl, by decide +kernel, rfl, by decide +kernel, by decide +kernel⟩
abbrev s_way_rows : Stmt := top 26
abbrev N_way_rows : List Str := ["lines", "rows"]
theorem sc_way_rows : FnScope N_way_rows ["lines"] (defScope s_way_rows) := ⟨rfl, rfl, rfl, by decide +kernel, rfl, by decide +kernel, by decide +kernel⟩
abbrev s_scope_row : Stmt := top 27
abbrev N_scope_row : List Str := ["lines", "at", "plain", "told", "word"]
theorem sc_scope_row : FnScope N_scope_row ["lines", "at", "plain"] (defScope s_scope_row) := ⟨rfl, rfl, rfl, by decide +kernel, rfl, by decide +kernel, by decide +kernel⟩
abbrev s_end_line : Stmt := top 28
abbrev N_end_line : List Str := ["lines"]
theorem sc_end_line : FnScope N_end_line ["lines"] (defScope s_end_line) := ⟨rfl, rfl, rfl, by decide +kernel, rfl, by decide +kernel, by decide +kernel⟩
abbrev s_term_row : Stmt := top 29
abbrev N_term_row : List Str := ["lines", "name", "pattern", "ways", "first", "scope", "turn"]
theorem sc_term_row : FnScope N_term_row ["lines"] (defScope s_term_row) := ⟨rfl, rfl, rfl, by decide +kernel, rfl, by decide +kernel, by decide +kernel⟩
abbrev s_made_term : Stmt := top 30
abbrev N_made_term : List Str := ["row", "name", "pattern", "ways", "scope", "first", "turn"]
theorem sc_made_term : FnScope N_made_term ["row"] (defScope s_made_term) := ⟨rfl, rfl, rfl, by decide +kernel, rfl, by decide +kernel, by decide +kernel⟩
abbrev s_entry_lines : Stmt := top 32
abbrev N_entry_lines : List Str := ["change", "word", "rows", "way"]
theorem sc_entry_lines : FnScope N_entry_lines ["change"] (defScope s_entry_lines) := ⟨rfl, rfl, rfl, by decide +kernel, rfl, by decide +kernel, by decide +kernel⟩
abbrev s_write_log : Stmt := top 33
abbrev N_write_log : List Str := ["changes", "rows", "change"]
theorem sc_write_log : FnScope N_write_log ["changes"] (defScope s_write_log) := ⟨rfl, rfl, rfl, by decide +kernel, rfl, by decide +kernel, by decide +kernel⟩
abbrev s_name_line : Stmt := top 34
abbrev N_name_line : List Str := ["lines", "name"]
theorem sc_name_line : FnScope N_name_line ["lines"] (defScope s_name_line) := ⟨rfl, rfl, rfl, by decide +kernel, rfl, by decide +kernel, by decide +kernel⟩
abbrev s_added_row : Stmt := top 35
abbrev N_added_row : List Str := ["lines", "row"]
theorem sc_added_row : FnScope N_added_row ["lines"] (defScope s_added_row) := ⟨rfl, rfl, rfl, by decide +kernel, rfl, by decide +kernel, by decide +kernel⟩
abbrev s_ways_of_entry : Stmt := top 36
abbrev N_ways_of_entry : List Str := ["lines", "rows"]
theorem sc_ways_of_entry : FnScope N_ways_of_entry ["lines"] (defScope s_ways_of_entry) := ⟨rfl, rfl, rfl, by decide +kernel, rfl, by decide +kernel, by decide +kernel⟩
abbrev s_first_of_entry : Stmt := top 37
abbrev N_first_of_entry : List Str := ["lines", "way"]
theorem sc_first_of_entry : FnScope N_first_of_entry ["lines"] (defScope s_first_of_entry) := ⟨rfl, rfl, rfl, by decide +kernel, rfl, by decide +kernel, by decide +kernel⟩
abbrev s_entry_row : Stmt := top 38
abbrev N_entry_row : List Str := ["lines", "word", "row"]
theorem sc_entry_row : FnScope N_entry_row ["lines"] (defScope s_entry_row) := ⟨rfl, rfl, rfl, by decide +kernel, rfl, by decide +kernel, by decide +kernel⟩
abbrev s_made_change : Stmt := top 39
abbrev N_made_change : List Str := ["row"]
theorem sc_made_change : FnScope N_made_change ["row"] (defScope s_made_change) := ⟨rfl, rfl, rfl, by decide +kernel, rfl, by decide +kernel, by decide +kernel⟩
abbrev s_read_log : Stmt := top 40
abbrev N_read_log : List Str := ["lines", "texts", "rows", "row"]
theorem sc_read_log : FnScope N_read_log ["lines"] (defScope s_read_log) := ⟨rfl, rfl, rfl, by decide +kernel, rfl, by decide +kernel, by decide +kernel⟩
abbrev s__law_source : Stmt := top 42
abbrev N__law_source : List Str := ["script", "salt"]
theorem sc__law_source : FnScope N__law_source ["script", "salt"] (defScope s__law_source) := ⟨rfl, rfl, rfl, by decide +kernel, rfl, by decide +kernel, by decide +kernel⟩
abbrev s__law_next : Stmt := top 43
abbrev N__law_next : List Str := ["source", "script", "k", "cell"]
theorem sc__law_next : FnScope N__law_next ["source"] (defScope s__law_next) := ⟨rfl, rfl, rfl, by decide +kernel, rfl, by decide +kernel, by decide +kernel⟩
abbrev s__law_pick : Stmt := top 44
abbrev N__law_pick : List Str := ["source", "many", "told", "low", "high", "last"]
theorem sc__law_pick : FnScope N__law_pick ["source", "many"] (defScope s__law_pick) := ⟨rfl, rfl, rfl, by decide +kernel, rfl, by decide +kernel, by decide +kernel⟩
abbrev s__law_one_in : Stmt := top 45
abbrev N__law_one_in : List Str := ["source", "many"]
theorem sc__law_one_in : FnScope N__law_one_in ["source", "many"] (defScope s__law_one_in) := ⟨rfl, rfl, rfl, by decide +kernel, rfl, by decide +kernel, by decide +kernel⟩
abbrev s__law_one_of : Stmt := top 46
abbrev N__law_one_of : List Str := ["source", "row"]
theorem sc__law_one_of : FnScope N__law_one_of ["source", "row"] (defScope s__law_one_of) := ⟨rfl, rfl, rfl, by decide +kernel, rfl, by decide +kernel, by decide +kernel⟩
abbrev s__law_letter : Stmt := top 47
abbrev N__law_letter : List Str := ["k"]
theorem sc__law_letter : FnScope N__law_letter ["k"] (defScope s__law_letter) := ⟨rfl, rfl, rfl, by decide +kernel, rfl, by decide +kernel, by decide +kernel⟩
abbrev s__law_word : Stmt := top 48
abbrev N__law_word : List Str := ["source", "longest", "size", "k"]
theorem sc__law_word : FnScope N__law_word ["source", "longest"] (defScope s__law_word) := ⟨rfl, rfl, rfl, by decide +kernel, rfl, by decide +kernel, by decide +kernel⟩
abbrev s__law_words : Stmt := top 49
abbrev N__law_words : List Str := ["source", "many", "longest", "spent", "words", "k", "word", "many_more", "row", "j", "one"]
theorem sc__law_words : FnScope N__law_words ["source", "many", "longest", "spent"] (defScope s__law_words) := ⟨rfl, rfl, rfl, by decide +kernel, rfl, by decide +kernel, by decide +kernel⟩
abbrev s__law_lists : Stmt := top 50
abbrev N__law_lists : List Str := ["thing", "part"]
theorem sc__law_lists : FnScope N__law_lists ["thing"] (defScope s__law_lists) := ⟨rfl, rfl, rfl, by decide +kernel, rfl, by decide +kernel, by decide +kernel⟩
abbrev s__law_same : Stmt := top 51
abbrev N__law_same : List Str := ["actual", "due", "k"]
theorem sc__law_same : FnScope N__law_same ["actual", "due"] (defScope s__law_same) := ⟨rfl, rfl, rfl, by decide +kernel, rfl, by decide +kernel, by decide +kernel⟩
abbrev s__law_change : Stmt := top 52
abbrev N__law_change : List Str := ["change", "form", "row"]
theorem sc__law_change : FnScope N__law_change ["change", "form"] (defScope s__law_change) := ⟨rfl, rfl, rfl, by decide +kernel, rfl, by decide +kernel, by decide +kernel⟩
abbrev s__law_wide_way : Stmt := top 53
abbrev N__law_wide_way : List Str := ["source", "pool", "gap", "row", "k", "item"]
theorem sc__law_wide_way : FnScope N__law_wide_way ["source", "pool", "gap"] (defScope s__law_wide_way) := ⟨rfl, rfl, rfl, by decide +kernel, rfl, by decide +kernel, by decide +kernel⟩
abbrev s__law_wide_reach : Stmt := top 54
abbrev N__law_wide_reach : List Str := ["source", "heads", "bare", "rows", "word"]
theorem sc__law_wide_reach : FnScope N__law_wide_reach ["source", "heads", "bare"] (defScope s__law_wide_reach) := ⟨rfl, rfl, rfl, by decide +kernel, rfl, by decide +kernel, by decide +kernel⟩
abbrev s__law_wide_term : Stmt := top 55
abbrev N__law_wide_term : List Str := ["source", "words", "heads", "pool", "name", "maps", "form", "row", "pattern", "ways", "reach", "opening", "turner", "k", "word"]
theorem sc__law_wide_term : FnScope N__law_wide_term ["source", "words", "heads", "pool", "name", "maps"] (defScope s__law_wide_term) := ⟨rfl, rfl, rfl, by decide +kernel, rfl, by decide +kernel, by decide +kernel⟩
abbrev s__law_free_way : Stmt := top 56
abbrev N__law_free_way : List Str := ["source", "words", "row", "k", "item"]
theorem sc__law_free_way : FnScope N__law_free_way ["source", "words"] (defScope s__law_free_way) := ⟨rfl, rfl, rfl, by decide +kernel, rfl, by decide +kernel, by decide +kernel⟩
abbrev s__law_wide_change : Stmt := top 57
abbrev N__law_wide_change : List Str := ["source", "words", "kind", "name", "maps", "ways", "k"]
theorem sc__law_wide_change : FnScope N__law_wide_change ["source", "words"] (defScope s__law_wide_change) := ⟨rfl, rfl, rfl, by decide +kernel, rfl, by decide +kernel, by decide +kernel⟩
abbrev s__law_line : Stmt := top 58
abbrev N__law_line : List Str := ["word", "row"]
theorem sc__law_line : FnScope N__law_line ["word", "row"] (defScope s__law_line) := ⟨rfl, rfl, rfl, by decide +kernel, rfl, by decide +kernel, by decide +kernel⟩
abbrev s__law_term_lines : Stmt := top 59
abbrev N__law_term_lines : List Str := ["term", "rows", "way"]
theorem sc__law_term_lines : FnScope N__law_term_lines ["term"] (defScope s__law_term_lines) := ⟨rfl, rfl, rfl, by decide +kernel, rfl, by decide +kernel, by decide +kernel⟩
abbrev s__law_entry_lines : Stmt := top 60
abbrev N__law_entry_lines : List Str := ["change", "ways", "way"]
theorem sc__law_entry_lines : FnScope N__law_entry_lines ["change"] (defScope s__law_entry_lines) := ⟨rfl, rfl, rfl, by decide +kernel, rfl, by decide +kernel, by decide +kernel⟩
abbrev s__law_log_lines : Stmt := top 61
abbrev N__law_log_lines : List Str := ["changes", "rows", "change"]
theorem sc__law_log_lines : FnScope N__law_log_lines ["changes"] (defScope s__law_log_lines) := ⟨rfl, rfl, rfl, by decide +kernel, rfl, by decide +kernel, by decide +kernel⟩
abbrev s__law_told_term : Stmt := top 62
abbrev N__law_told_term : List Str := ["term"]
theorem sc__law_told_term : FnScope N__law_told_term ["term"] (defScope s__law_told_term) := ⟨rfl, rfl, rfl, by decide +kernel, rfl, by decide +kernel, by decide +kernel⟩
abbrev s__law_told_change : Stmt := top 63
abbrev N__law_told_change : List Str := ["change"]
theorem sc__law_told_change : FnScope N__law_told_change ["change"] (defScope s__law_told_change) := ⟨rfl, rfl, rfl, by decide +kernel, rfl, by decide +kernel, by decide +kernel⟩
abbrev s__law_told_changes : Stmt := top 64
abbrev N__law_told_changes : List Str := ["changes", "change"]
theorem sc__law_told_changes : FnScope N__law_told_changes ["changes"] (defScope s__law_told_changes) := ⟨rfl, rfl, rfl, by decide +kernel, rfl, by decide +kernel, by decide +kernel⟩
abbrev s__law_made : Stmt := top 66
abbrev N__law_made : List Str := ["data", "form", "changes", "change"]
theorem sc__law_made : FnScope N__law_made ["data", "form"] (defScope s__law_made) := ⟨rfl, rfl, rfl, by decide +kernel, rfl, by decide +kernel, by decide +kernel⟩
abbrev s_Term___eq__ : Stmt := inClass (top 18) 3
abbrev N_Term___eq__ : List Str := ["self", "other"]
theorem sc_Term___eq__ : FnScope N_Term___eq__ ["self", "other"] (defScope s_Term___eq__) := ⟨rfl, rfl, rfl, by decide +kernel, rfl, by decide +kernel, by decide +kernel⟩
abbrev s__law_there_and_back : Stmt := top 65
abbrev N__law_there_and_back : List Str := ["data", "changes", "form", "due", "passed_in", "told", "k", "lines"]
theorem sc__law_there_and_back : FnScope N__law_there_and_back ["data", "changes", "form"] (defScope s__law_there_and_back) := ⟨rfl, rfl, rfl, by decide +kernel, rfl, by decide +kernel, by decide +kernel⟩
abbrev s_law : Stmt := top 67
abbrev N_law : List Str := ["script", "source", "words", "most", "data", "other", "changes", "other_changes", "both", "k"]
theorem sc_law : FnScope N_law ["script"] (defScope s_law) := ⟨rfl, rfl, rfl, by decide +kernel, rfl, by decide +kernel, by decide +kernel⟩
structure Txt (K : PySem.W.Frag) (mg : Str → Option Value) (cl : Nat → Addr) (fa : Nat → Addr) (fd : Nat → FuncData) (dT11 : Addr) : Prop where
  F_BadTerm___init__ : Fun K "__init__" "BadTerm.__init__" s_BadTerm___init__ (fa 1) (fd 1)
  k_BadTerm___init__ : PySem.W.keepIn K (.ref (fa 1)) = true
  b_BadTerm___init__ : Binds K (fd 1) ["self", "word"] []
  F_BadLine___init__ : Fun K "__init__" "BadLine.__init__" s_BadLine___init__ (fa 2) (fd 2)
  k_BadLine___init__ : PySem.W.keepIn K (.ref (fa 2)) = true
  b_BadLine___init__ : Binds K (fd 2) ["self", "line", "word"] []
  F_deep : Fun K "deep" "deep" s_deep (fa 3) (fd 3)
  g_deep : mg "deep" = some (.ref (fa 3))
  k_deep : PySem.W.keepIn K (.ref (fa 3)) = true
  b_deep : Binds K (fd 3) ["thing"] []
  F_is_word : Fun K "is_word" "is_word" s_is_word (fa 4) (fd 4)
  g_is_word : mg "is_word" = some (.ref (fa 4))
  k_is_word : PySem.W.keepIn K (.ref (fa 4)) = true
  b_is_word : Binds K (fd 4) ["thing"] []
  F_is_note : Fun K "is_note" "is_note" s_is_note (fa 5) (fd 5)
  g_is_note : mg "is_note" = some (.ref (fa 5))
  k_is_note : PySem.W.keepIn K (.ref (fa 5)) = true
  b_is_note : Binds K (fd 5) ["thing"] []
  F_is_token : Fun K "is_token" "is_token" s_is_token (fa 6) (fd 6)
  g_is_token : mg "is_token" = some (.ref (fa 6))
  k_is_token : PySem.W.keepIn K (.ref (fa 6)) = true
  b_is_token : Binds K (fd 6) ["thing"] []
  F_is_pattern : Fun K "is_pattern" "is_pattern" s_is_pattern (fa 7) (fd 7)
  g_is_pattern : mg "is_pattern" = some (.ref (fa 7))
  k_is_pattern : PySem.W.keepIn K (.ref (fa 7)) = true
  b_is_pattern : Binds K (fd 7) ["thing"] []
  F_are_items : Fun K "are_items" "are_items" s_are_items (fa 8) (fd 8)
  g_are_items : mg "are_items" = some (.ref (fa 8))
  k_are_items : PySem.W.keepIn K (.ref (fa 8)) = true
  b_are_items : Binds K (fd 8) ["thing"] []
  F_is_way : Fun K "is_way" "is_way" s_is_way (fa 9) (fd 9)
  g_is_way : mg "is_way" = some (.ref (fa 9))
  k_is_way : PySem.W.keepIn K (.ref (fa 9)) = true
  b_is_way : Binds K (fd 9) ["thing", "gap"] []
  F_is_scope : Fun K "is_scope" "is_scope" s_is_scope (fa 10) (fd 10)
  g_is_scope : mg "is_scope" = some (.ref (fa 10))
  k_is_scope : PySem.W.keepIn K (.ref (fa 10)) = true
  b_is_scope : Binds K (fd 10) ["thing"] []
  D_Term___init__ : FunD K "__init__" "Term.__init__" (defArgs s_Term___init__) (defBody s_Term___init__) (defScope s_Term___init__) [] [("scope", .ref dT11), ("first", .non), ("turn", .non)] (fa 11) (fd 11)
  kb_Term___init__ : KBn K (fd 11) ["self", "name", "pattern", "ways", "scope", "first", "turn"] 4 ["scope", "first", "turn"] (fun us ws => us ++ ws) (fun vs zs => vs ++ zs)
  k_Term___init__ : PySem.W.keepIn K (.ref (fa 11)) = true
  F_keyed_term : Fun K "keyed_term" "keyed_term" s_keyed_term (fa 15) (fd 15)
  g_keyed_term : mg "keyed_term" = some (.ref (fa 15))
  k_keyed_term : PySem.W.keepIn K (.ref (fa 15)) = true
  b_keyed_term : Binds K (fd 15) ["term"] []
  F_Lines___init__ : Fun K "__init__" "Lines.__init__" s_Lines___init__ (fa 16) (fd 16)
  k_Lines___init__ : PySem.W.keepIn K (.ref (fa 16)) = true
  b_Lines___init__ : Binds K (fd 16) ["self", "texts"] []
  F_Lines_line_number : Fun K "line_number" "Lines.line_number" s_Lines_line_number (fa 17) (fd 17)
  k_Lines_line_number : PySem.W.keepIn K (.ref (fa 17)) = true
  b_Lines_line_number : Binds K (fd 17) ["self"] []
  F_Lines_line_words : Fun K "line_words" "Lines.line_words" s_Lines_line_words (fa 18) (fd 18)
  k_Lines_line_words : PySem.W.keepIn K (.ref (fa 18)) = true
  b_Lines_line_words : Binds K (fd 18) ["self"] []
  F_Lines_first_word : Fun K "first_word" "Lines.first_word" s_Lines_first_word (fa 19) (fd 19)
  k_Lines_first_word : PySem.W.keepIn K (.ref (fa 19)) = true
  b_Lines_first_word : Binds K (fd 19) ["self"] []
  F_Lines_many_words : Fun K "many_words" "Lines.many_words" s_Lines_many_words (fa 20) (fd 20)
  k_Lines_many_words : PySem.W.keepIn K (.ref (fa 20)) = true
  b_Lines_many_words : Binds K (fd 20) ["self"] []
  F_Lines_word_at : Fun K "word_at" "Lines.word_at" s_Lines_word_at (fa 21) (fd 21)
  k_Lines_word_at : PySem.W.keepIn K (.ref (fa 21)) = true
  b_Lines_word_at : Binds K (fd 21) ["self", "k"] []
  F_Lines_fail_at : Fun K "fail_at" "Lines.fail_at" s_Lines_fail_at (fa 23) (fd 23)
  k_Lines_fail_at : PySem.W.keepIn K (.ref (fa 23)) = true
  b_Lines_fail_at : Binds K (fd 23) ["self", "k"] []
  F_Lines_name_at : Fun K "name_at" "Lines.name_at" s_Lines_name_at (fa 24) (fd 24)
  k_Lines_name_at : PySem.W.keepIn K (.ref (fa 24)) = true
  b_Lines_name_at : Binds K (fd 24) ["self", "k"] []
  F_Lines_item_at : Fun K "item_at" "Lines.item_at" s_Lines_item_at (fa 25) (fd 25)
  k_Lines_item_at : PySem.W.keepIn K (.ref (fa 25)) = true
  b_Lines_item_at : Binds K (fd 25) ["self", "k", "notes"] []
  F_Lines_want_word : Fun K "want_word" "Lines.want_word" s_Lines_want_word (fa 27) (fd 27)
  k_Lines_want_word : PySem.W.keepIn K (.ref (fa 27)) = true
  b_Lines_want_word : Binds K (fd 27) ["self", "word"] []
  F_Lines_close_at : Fun K "close_at" "Lines.close_at" s_Lines_close_at (fa 28) (fd 28)
  k_Lines_close_at : PySem.W.keepIn K (.ref (fa 28)) = true
  b_Lines_close_at : Binds K (fd 28) ["self", "k"] []
  F_line_of : Fun K "line_of" "line_of" s_line_of (fa 29) (fd 29)
  g_line_of : mg "line_of" = some (.ref (fa 29))
  k_line_of : PySem.W.keepIn K (.ref (fa 29)) = true
  b_line_of : Binds K (fd 29) ["word", "row"] []
  F_write_term : Fun K "write_term" "write_term" s_write_term (fa 30) (fd 30)
  g_write_term : mg "write_term" = some (.ref (fa 30))
  k_write_term : PySem.W.keepIn K (.ref (fa 30)) = true
  b_write_term : Binds K (fd 30) ["term"] []
  F_items_from : Fun K "items_from" "items_from" s_items_from (fa 31) (fd 31)
  g_items_from : mg "items_from" = some (.ref (fa 31))
  k_items_from : PySem.W.keepIn K (.ref (fa 31)) = true
  b_items_from : Binds K (fd 31) ["lines", "at", "least", "most", "notes"] []
  F_way_rows : Fun K "way_rows" "way_rows" s_way_rows (fa 32) (fd 32)
  g_way_rows : mg "way_rows" = some (.ref (fa 32))
  k_way_rows : PySem.W.keepIn K (.ref (fa 32)) = true
  b_way_rows : Binds K (fd 32) ["lines"] []
  F_scope_row : Fun K "scope_row" "scope_row" s_scope_row (fa 33) (fd 33)
  g_scope_row : mg "scope_row" = some (.ref (fa 33))
  k_scope_row : PySem.W.keepIn K (.ref (fa 33)) = true
  b_scope_row : Binds K (fd 33) ["lines", "at", "plain"] []
  F_end_line : Fun K "end_line" "end_line" s_end_line (fa 34) (fd 34)
  g_end_line : mg "end_line" = some (.ref (fa 34))
  k_end_line : PySem.W.keepIn K (.ref (fa 34)) = true
  b_end_line : Binds K (fd 34) ["lines"] []
  F_term_row : Fun K "term_row" "term_row" s_term_row (fa 35) (fd 35)
  g_term_row : mg "term_row" = some (.ref (fa 35))
  k_term_row : PySem.W.keepIn K (.ref (fa 35)) = true
  b_term_row : Binds K (fd 35) ["lines"] []
  F_made_term : Fun K "made_term" "made_term" s_made_term (fa 36) (fd 36)
  g_made_term : mg "made_term" = some (.ref (fa 36))
  k_made_term : PySem.W.keepIn K (.ref (fa 36)) = true
  b_made_term : Binds K (fd 36) ["row"] []
  F_entry_lines : Fun K "entry_lines" "entry_lines" s_entry_lines (fa 37) (fd 37)
  g_entry_lines : mg "entry_lines" = some (.ref (fa 37))
  k_entry_lines : PySem.W.keepIn K (.ref (fa 37)) = true
  b_entry_lines : Binds K (fd 37) ["change"] []
  F_write_log : Fun K "write_log" "write_log" s_write_log (fa 38) (fd 38)
  g_write_log : mg "write_log" = some (.ref (fa 38))
  k_write_log : PySem.W.keepIn K (.ref (fa 38)) = true
  b_write_log : Binds K (fd 38) ["changes"] []
  F_name_line : Fun K "name_line" "name_line" s_name_line (fa 39) (fd 39)
  g_name_line : mg "name_line" = some (.ref (fa 39))
  k_name_line : PySem.W.keepIn K (.ref (fa 39)) = true
  b_name_line : Binds K (fd 39) ["lines"] []
  F_added_row : Fun K "added_row" "added_row" s_added_row (fa 40) (fd 40)
  g_added_row : mg "added_row" = some (.ref (fa 40))
  k_added_row : PySem.W.keepIn K (.ref (fa 40)) = true
  b_added_row : Binds K (fd 40) ["lines"] []
  F_ways_of_entry : Fun K "ways_of_entry" "ways_of_entry" s_ways_of_entry (fa 41) (fd 41)
  g_ways_of_entry : mg "ways_of_entry" = some (.ref (fa 41))
  k_ways_of_entry : PySem.W.keepIn K (.ref (fa 41)) = true
  b_ways_of_entry : Binds K (fd 41) ["lines"] []
  F_first_of_entry : Fun K "first_of_entry" "first_of_entry" s_first_of_entry (fa 42) (fd 42)
  g_first_of_entry : mg "first_of_entry" = some (.ref (fa 42))
  k_first_of_entry : PySem.W.keepIn K (.ref (fa 42)) = true
  b_first_of_entry : Binds K (fd 42) ["lines"] []
  F_entry_row : Fun K "entry_row" "entry_row" s_entry_row (fa 43) (fd 43)
  g_entry_row : mg "entry_row" = some (.ref (fa 43))
  k_entry_row : PySem.W.keepIn K (.ref (fa 43)) = true
  b_entry_row : Binds K (fd 43) ["lines"] []
  F_made_change : Fun K "made_change" "made_change" s_made_change (fa 44) (fd 44)
  g_made_change : mg "made_change" = some (.ref (fa 44))
  k_made_change : PySem.W.keepIn K (.ref (fa 44)) = true
  b_made_change : Binds K (fd 44) ["row"] []
  F_read_log : Fun K "read_log" "read_log" s_read_log (fa 45) (fd 45)
  g_read_log : mg "read_log" = some (.ref (fa 45))
  k_read_log : PySem.W.keepIn K (.ref (fa 45)) = true
  b_read_log : Binds K (fd 45) ["lines"] []
  F__law_source : Fun K "_law_source" "_law_source" s__law_source (fa 46) (fd 46)
  g__law_source : mg "_law_source" = some (.ref (fa 46))
  k__law_source : PySem.W.keepIn K (.ref (fa 46)) = true
  b__law_source : Binds K (fd 46) ["script", "salt"] []
  F__law_next : Fun K "_law_next" "_law_next" s__law_next (fa 47) (fd 47)
  g__law_next : mg "_law_next" = some (.ref (fa 47))
  k__law_next : PySem.W.keepIn K (.ref (fa 47)) = true
  b__law_next : Binds K (fd 47) ["source"] []
  F__law_pick : Fun K "_law_pick" "_law_pick" s__law_pick (fa 48) (fd 48)
  g__law_pick : mg "_law_pick" = some (.ref (fa 48))
  k__law_pick : PySem.W.keepIn K (.ref (fa 48)) = true
  b__law_pick : Binds K (fd 48) ["source", "many"] []
  F__law_one_in : Fun K "_law_one_in" "_law_one_in" s__law_one_in (fa 49) (fd 49)
  g__law_one_in : mg "_law_one_in" = some (.ref (fa 49))
  k__law_one_in : PySem.W.keepIn K (.ref (fa 49)) = true
  b__law_one_in : Binds K (fd 49) ["source", "many"] []
  F__law_one_of : Fun K "_law_one_of" "_law_one_of" s__law_one_of (fa 50) (fd 50)
  g__law_one_of : mg "_law_one_of" = some (.ref (fa 50))
  k__law_one_of : PySem.W.keepIn K (.ref (fa 50)) = true
  b__law_one_of : Binds K (fd 50) ["source", "row"] []
  F__law_letter : Fun K "_law_letter" "_law_letter" s__law_letter (fa 51) (fd 51)
  g__law_letter : mg "_law_letter" = some (.ref (fa 51))
  k__law_letter : PySem.W.keepIn K (.ref (fa 51)) = true
  b__law_letter : Binds K (fd 51) ["k"] []
  F__law_word : Fun K "_law_word" "_law_word" s__law_word (fa 52) (fd 52)
  g__law_word : mg "_law_word" = some (.ref (fa 52))
  k__law_word : PySem.W.keepIn K (.ref (fa 52)) = true
  b__law_word : Binds K (fd 52) ["source", "longest"] []
  F__law_words : Fun K "_law_words" "_law_words" s__law_words (fa 53) (fd 53)
  g__law_words : mg "_law_words" = some (.ref (fa 53))
  k__law_words : PySem.W.keepIn K (.ref (fa 53)) = true
  b__law_words : Binds K (fd 53) ["source", "many", "longest", "spent"] []
  F__law_lists : Fun K "_law_lists" "_law_lists" s__law_lists (fa 54) (fd 54)
  g__law_lists : mg "_law_lists" = some (.ref (fa 54))
  k__law_lists : PySem.W.keepIn K (.ref (fa 54)) = true
  b__law_lists : Binds K (fd 54) ["thing"] []
  F__law_same : Fun K "_law_same" "_law_same" s__law_same (fa 55) (fd 55)
  g__law_same : mg "_law_same" = some (.ref (fa 55))
  k__law_same : PySem.W.keepIn K (.ref (fa 55)) = true
  b__law_same : Binds K (fd 55) ["actual", "due"] []
  F__law_change : Fun K "_law_change" "_law_change" s__law_change (fa 56) (fd 56)
  g__law_change : mg "_law_change" = some (.ref (fa 56))
  k__law_change : PySem.W.keepIn K (.ref (fa 56)) = true
  b__law_change : Binds K (fd 56) ["change", "form"] []
  F__law_wide_way : Fun K "_law_wide_way" "_law_wide_way" s__law_wide_way (fa 57) (fd 57)
  g__law_wide_way : mg "_law_wide_way" = some (.ref (fa 57))
  k__law_wide_way : PySem.W.keepIn K (.ref (fa 57)) = true
  b__law_wide_way : Binds K (fd 57) ["source", "pool", "gap"] []
  F__law_wide_reach : Fun K "_law_wide_reach" "_law_wide_reach" s__law_wide_reach (fa 58) (fd 58)
  g__law_wide_reach : mg "_law_wide_reach" = some (.ref (fa 58))
  k__law_wide_reach : PySem.W.keepIn K (.ref (fa 58)) = true
  b__law_wide_reach : Binds K (fd 58) ["source", "heads", "bare"] []
  F__law_wide_term : Fun K "_law_wide_term" "_law_wide_term" s__law_wide_term (fa 59) (fd 59)
  g__law_wide_term : mg "_law_wide_term" = some (.ref (fa 59))
  k__law_wide_term : PySem.W.keepIn K (.ref (fa 59)) = true
  b__law_wide_term : Binds K (fd 59) ["source", "words", "heads", "pool", "name", "maps"] []
  F__law_free_way : Fun K "_law_free_way" "_law_free_way" s__law_free_way (fa 60) (fd 60)
  g__law_free_way : mg "_law_free_way" = some (.ref (fa 60))
  k__law_free_way : PySem.W.keepIn K (.ref (fa 60)) = true
  b__law_free_way : Binds K (fd 60) ["source", "words"] []
  F__law_wide_change : Fun K "_law_wide_change" "_law_wide_change" s__law_wide_change (fa 61) (fd 61)
  g__law_wide_change : mg "_law_wide_change" = some (.ref (fa 61))
  k__law_wide_change : PySem.W.keepIn K (.ref (fa 61)) = true
  b__law_wide_change : Binds K (fd 61) ["source", "words"] []
  F__law_line : Fun K "_law_line" "_law_line" s__law_line (fa 62) (fd 62)
  g__law_line : mg "_law_line" = some (.ref (fa 62))
  k__law_line : PySem.W.keepIn K (.ref (fa 62)) = true
  b__law_line : Binds K (fd 62) ["word", "row"] []
  F__law_term_lines : Fun K "_law_term_lines" "_law_term_lines" s__law_term_lines (fa 63) (fd 63)
  g__law_term_lines : mg "_law_term_lines" = some (.ref (fa 63))
  k__law_term_lines : PySem.W.keepIn K (.ref (fa 63)) = true
  b__law_term_lines : Binds K (fd 63) ["term"] []
  F__law_entry_lines : Fun K "_law_entry_lines" "_law_entry_lines" s__law_entry_lines (fa 64) (fd 64)
  g__law_entry_lines : mg "_law_entry_lines" = some (.ref (fa 64))
  k__law_entry_lines : PySem.W.keepIn K (.ref (fa 64)) = true
  b__law_entry_lines : Binds K (fd 64) ["change"] []
  F__law_log_lines : Fun K "_law_log_lines" "_law_log_lines" s__law_log_lines (fa 65) (fd 65)
  g__law_log_lines : mg "_law_log_lines" = some (.ref (fa 65))
  k__law_log_lines : PySem.W.keepIn K (.ref (fa 65)) = true
  b__law_log_lines : Binds K (fd 65) ["changes"] []
  F__law_told_term : Fun K "_law_told_term" "_law_told_term" s__law_told_term (fa 66) (fd 66)
  g__law_told_term : mg "_law_told_term" = some (.ref (fa 66))
  k__law_told_term : PySem.W.keepIn K (.ref (fa 66)) = true
  b__law_told_term : Binds K (fd 66) ["term"] []
  F__law_told_change : Fun K "_law_told_change" "_law_told_change" s__law_told_change (fa 67) (fd 67)
  g__law_told_change : mg "_law_told_change" = some (.ref (fa 67))
  k__law_told_change : PySem.W.keepIn K (.ref (fa 67)) = true
  b__law_told_change : Binds K (fd 67) ["change"] []
  F__law_told_changes : Fun K "_law_told_changes" "_law_told_changes" s__law_told_changes (fa 68) (fd 68)
  g__law_told_changes : mg "_law_told_changes" = some (.ref (fa 68))
  k__law_told_changes : PySem.W.keepIn K (.ref (fa 68)) = true
  b__law_told_changes : Binds K (fd 68) ["changes"] []
  F__law_made : Fun K "_law_made" "_law_made" s__law_made (fa 70) (fd 70)
  g__law_made : mg "_law_made" = some (.ref (fa 70))
  k__law_made : PySem.W.keepIn K (.ref (fa 70)) = true
  b__law_made : Binds K (fd 70) ["data", "form"] []
  F_Term___eq__ : Fun K "__eq__" "Term.__eq__" s_Term___eq__ (fa 14) (fd 14)
  k_Term___eq__ : PySem.W.keepIn K (.ref (fa 14)) = true
  b_Term___eq__ : Binds K (fd 14) ["self", "other"] []
  F__law_there_and_back : Fun K "_law_there_and_back" "_law_there_and_back" s__law_there_and_back (fa 69) (fd 69)
  g__law_there_and_back : mg "_law_there_and_back" = some (.ref (fa 69))
  k__law_there_and_back : PySem.W.keepIn K (.ref (fa 69)) = true
  b__law_there_and_back : Binds K (fd 69) ["data", "changes", "form"] []
  F_law : Fun K "law" "law" s_law (fa 71) (fd 71)
  g_law : mg "law" = some (.ref (fa 71))
  k_law : PySem.W.keepIn K (.ref (fa 71)) = true
  b_law : Binds K (fd 71) ["script"] []
  kt3_tuple : PySem.W.kitOne K (.ref (cl 3)) (.type "tuple") = some false
  kt3_list : PySem.W.kitOne K (.ref (cl 3)) (.type "list") = some false
  kt3_str : PySem.W.kitOne K (.ref (cl 3)) (.type "str") = some false
  gs_GAP : TopStr mg "GAP" "_"
  gs_PLAIN_SCOPES : TopTup K mg "PLAIN_SCOPES" ["work", "plain", "quoted"]
  gs_SCOPES_OF_A_WORD : TopTup K mg "SCOPES_OF_A_WORD" ["in", "behind"]
  kt3_bool : PySem.W.kitOne K (.ref (cl 3)) (.type "bool") = some false
  kt3_int : PySem.W.kitOne K (.ref (cl 3)) (.type "int") = some false
  z_isinstance : mg "isinstance" = none
  z_tuple : mg "tuple" = none
  z_list : mg "list" = none
  z_str : mg "str" = none
  z_len : mg "len" = none
  z_enumerate : mg "enumerate" = none
  z_all : mg "all" = none
  z_sum : mg "sum" = none
  z_int : mg "int" = none
  z_abs : mg "abs" = none
  z_range : mg "range" = none
  z_bool : mg "bool" = none
  g_AcrossError : mg "AcrossError" = some (.ref (cl 0))
  bx0 : BaseX K (cl 0)
  g_BadTerm : mg "BadTerm" = some (.ref (cl 1))
  x1 : OexC K (cl 1)
  i1 : PySem.W.findIn K (.ref (cl 1)) "__init__" = some (some (.ref (fa 1)))
  t1 : PySem.W.typeIn K (.ref (fa 1)) = some (.type "function")
  xn1_word : PySem.W.findIn K (.ref (cl 1)) "word" = some none
  g_BadLine : mg "BadLine" = some (.ref (cl 2))
  x2 : OexC K (cl 2)
  i2 : PySem.W.findIn K (.ref (cl 2)) "__init__" = some (some (.ref (fa 2)))
  t2 : PySem.W.typeIn K (.ref (fa 2)) = some (.type "function")
  xn2_line : PySem.W.findIn K (.ref (cl 2)) "line" = some none
  xn2_word : PySem.W.findIn K (.ref (cl 2)) "word" = some none
  g_Term : mg "Term" = some (.ref (cl 3))
  c3 : Cls K (cl 3)
  ow3 : OwnC K (cl 3)
  n3_name : NoAttr K (cl 3) "name"
  n3_pattern : NoAttr K (cl 3) "pattern"
  n3_ways : NoAttr K (cl 3) "ways"
  n3_scope : NoAttr K (cl 3) "scope"
  n3_first : NoAttr K (cl 3) "first"
  n3_turn : NoAttr K (cl 3) "turn"
  m3 : Mk K (cl 3) (fa 11)
  me3 : PySem.W.findIn K (.ref (cl 3)) "__eq__" = some (some (.ref (fa 14)))
  mf3 : PySem.W.isFn K (.ref (fa 14)) = true
  g_Lines : mg "Lines" = some (.ref (cl 4))
  c4 : Cls K (cl 4)
  ow4 : OwnC K (cl 4)
  n4_texts : NoAttr K (cl 4) "texts"
  n4_place : NoAttr K (cl 4) "place"
  m4 : Mk K (cl 4) (fa 16)
  mm4_line_number : Meth K (cl 4) "line_number" (fa 17)
  mm4_line_words : Meth K (cl 4) "line_words" (fa 18)
  mm4_first_word : Meth K (cl 4) "first_word" (fa 19)
  mm4_many_words : Meth K (cl 4) "many_words" (fa 20)
  mm4_word_at : Meth K (cl 4) "word_at" (fa 21)
  mm4_fail_at : Meth K (cl 4) "fail_at" (fa 23)
  mm4_name_at : Meth K (cl 4) "name_at" (fa 24)
  mm4_item_at : Meth K (cl 4) "item_at" (fa 25)
  mm4_want_word : Meth K (cl 4) "want_word" (fa 27)
  mm4_close_at : Meth K (cl 4) "close_at" (fa 28)
section
variable {P : Program} {w : World} {K : PySem.W.Frag} {mg : Str → Option Value} {base : Heap} {cl fa : Nat → Addr} {fd : Nat → FuncData} {dT11 : Addr}
theorem ok_BadTerm___init__ (T : Txt K mg cl fa fd dT11) : FnOk P w K mg base (L2N.CX P w) 1 (fa 1) (fd 1) ["self", "word"] (spX (cl 1) 2 [("word", 1)]) :=
  fnX (k := 0) (p0 := ("word", 1)) (fl := []) (ta := tCons (tC (.str "a term cannot have this")) tNil) T.F_BadTerm___init__ sc_BadTerm___init__ T.x1 (by
    intro p hp
    simp only [List.mem_cons, List.not_mem_nil, or_false] at hp
    subst hp
    exact ⟨by decide, T.xn1_word⟩) (by decide)
    (fun cdv A outer s H E hr => by exact (pss_cons (ps_expr (pe_binit T.bx0 rfl T.g_AcrossError (pa_cons (pv 0) (pa_cons pe_str pa_nil)))) (pss_one (ps_ost (pv 0) (pv 1))))) (fun _ _ _ h => h _ (by decide))
theorem ok_BadLine___init__ (T : Txt K mg cl fa fd dT11) : FnOk P w K mg base (L2N.CX P w) 1 (fa 2) (fd 2) ["self", "line", "word"] (spX (cl 2) 3 [("line", 1), ("word", 2)]) :=
  fnX (k := 0) (p0 := ("line", 1)) (fl := [("word", 2)]) (ta := tCons (tC (.str "this word cannot stand here")) tNil) T.F_BadLine___init__ sc_BadLine___init__ T.x2 (by
    intro p hp
    simp only [List.mem_cons, List.not_mem_nil, or_false] at hp
    rcases hp with rfl | rfl
    · exact ⟨by decide, T.xn2_line⟩
    · exact ⟨by decide, T.xn2_word⟩
    ) (by decide)
    (fun cdv A outer s H E hr => by exact (pss_cons (ps_expr (pe_binit T.bx0 rfl T.g_AcrossError (pa_cons (pv 0) (pa_cons pe_str pa_nil)))) (pss_cons (ps_ost (pv 0) (pv 1)) (pss_one (ps_ost (pv 0) (pv 2)))))) (fun _ _ _ h => h _ (by decide))
def m_deep (rec : List PV → Option RO) : M Fl := mSeq (mIf (mTru (mIsa (ansAny [ansT (ocF 3) "list", ansT (ocF 3) "tuple"]) (mVar 0))) (mRet (mCB pTuple [mLc [1] (mIterA (mVar 0)) (gN 1) mYes (mCall rec [mVar 1])])) (mNx)) (mRet (mVar 0))
def fd_deep : Nat → List PV → Option RO
  | 0 => fun _ => none
  | d + 1 => runP N_deep.length (m_deep (fd_deep d))
def f_deep : List PV → Option RO := fd_deep 8
theorem okd_deep (T : Txt K mg cl fa fd dT11) : ∀ d, FnOk P w K mg base (L2N.CX P w) (0 + d) (fa 3) (fd 3) ["thing"] (spP K cl 1 (fd_deep d))
  | 0 => fn_none
  | d + 1 => have ih := okd_deep T d
    fnP (k := 0 + d) (m := m_deep (fd_deep d)) T.F_deep sc_deep (fun cdv A outer s H E hr => by
    have hu := hu64 hr
    have tk : L2N.Takes (cxOf (L2N.CX P w) P w K mg base N_deep "deep" (defScope s_deep) (fa 3) cdv A outer s H E) (fun c d _ H' => E c d H') := L2N.takes_of rfl rfl rfl rfl
    exact (sm_cons (sm_if (tm_tru (em_isaT (.cons (.ty _) (isa_TF T.ow3 T.kt3_list) (.cons (.ty _) (isa_TF T.ow3 T.kt3_tuple) (.nil))) T.z_isinstance (em_v 0) (pa_cons (pe_bltn rfl T.z_list (v := .ty "list") (by rfl) rfl) (pa_cons (pe_bltn rfl T.z_tuple (v := .ty "tuple") (by rfl) rfl) (pa_nil))))) (sm_one (sm_ret (em_ct cr_tuple cs_tuple T.z_tuple (am_cons (LcM.em (LcM.mk (own := [("part", 1)]) (im_any (em_v 0)) (blkOk_by (own := [("part", 1)]) (N := N_deep) (sc := defScope s_deep) (by decide +kernel)) (blk_tg (fun _ _ _ _ _ => pg_name (i := 1) sc_deep.nd rfl (by first | exact Or.inl rfl | exact Or.inr rfl)) (does_gN) (gin_N (by decide))) (blk_ts fun _ _ _ _ _ => ts_nil) (blk_em fun _ _ _ _ _ => em_call takes_W0 (ih) (hr.mono (by first | decide | omega)) T.g_deep T.k_deep T.b_deep (am_cons (em_v 1) (am_nil)))) rfl sc_deep.nd) (am_nil))))) (sm_nil))
      (sm_one (sm_ret (em_v 0)))))
theorem ok_deep (T : Txt K mg cl fa fd dT11) : FnOk P w K mg base (L2N.CX P w) 8 (fa 3) (fd 3) ["thing"] (spP K cl 1 f_deep) := okd_deep T 8
def m_is_word : M Fl := mSeq (mIf (mOr (mNot (mTru (mIsa (ansT (ocF 3) "str") (mVar 0)))) (mNot (mTest (mChain pLeI pLeI (mK (.int 1)) (mCBV pLen 0) (mK (.int 8)))))) (mRet (mK (.bl false))) (mNx)) (mSeq (mFor (mIterA (mVar 0)) (gN 1) (mIf (mNot (mTest (mChain pLeI pLeI (mK (.str "a")) (mVar 1) (mK (.str "z"))))) (mRet (mK (.bl false))) (mNx))) (mRet (mK (.bl true))))
def f_is_word : List PV → Option RO := runP N_is_word.length m_is_word
theorem ok_is_word (T : Txt K mg cl fa fd dT11) : FnOk P w K mg base (L2N.CX P w) 1 (fa 4) (fd 4) ["thing"] (spP K cl 1 f_is_word) :=
  fnP (k := 0) (m := m_is_word) T.F_is_word sc_is_word (fun cdv A outer s H E hr => by
    have hu := hu64 hr
    have tk : L2N.Takes (cxOf (L2N.CX P w) P w K mg base N_is_word "is_word" (defScope s_is_word) (fa 4) cdv A outer s H E) (fun c d _ H' => E c d H') := L2N.takes_of rfl rfl rfl rfl
    exact (sm_cons (sm_if (tm_w (wm_or (tm_not (tm_tru (em_isa (isa_TF T.ow3 T.kt3_str) (.ty _) T.z_isinstance (em_v 0) (pe_bltn rfl T.z_str (v := .ty "str") (by rfl) rfl)))) (wm_or1 (tm_not (tm_chain br_le br_le (em_int) (em_cbV cr_lenA cs_len T.z_len (pv 0)) (em_int)))))) (sm_one (sm_ret (em_bl))) (sm_nil))
      (sm_cons (sm_for (passes_of rfl) rfl (im_any (em_v 0)) (gm_of (pg_name (i := 1) sc_is_word.nd rfl (by first | exact Or.inl rfl | exact Or.inr rfl)) (does_gN)) (sm_one (sm_if (tm_not (tm_chain br_le br_le (em_str) (em_v 1) (em_str))) (sm_one (sm_ret (em_bl))) (sm_nil))))
      (sm_one (sm_ret (em_bl))))))
def m_is_note : M Fl := mRet (mB (mAnd (mTest (mIsa (ansT (ocF 3) "str") (mVar 0))) (mAnd (mTest (mBin pEq (mSl (mVar 0) (mNoB) (mBd (mK (.int 1)))) (mK (.str "*")))) (mTest (mCall f_is_word [mSl (mVar 0) (mBd (mK (.int 1))) (mNoB)])))))
def f_is_note : List PV → Option RO := runP N_is_note.length m_is_note
theorem ok_is_note (T : Txt K mg cl fa fd dT11) : FnOk P w K mg base (L2N.CX P w) 2 (fa 5) (fd 5) ["thing"] (spP K cl 1 f_is_note) :=
  fnP (k := 1) (m := m_is_note) T.F_is_note sc_is_note (fun cdv A outer s H E hr => by
    have hu := hu64 hr
    have tk : L2N.Takes (cxOf (L2N.CX P w) P w K mg base N_is_note "is_note" (defScope s_is_note) (fa 5) cdv A outer s H E) (fun c d _ H' => E c d H') := L2N.takes_of rfl rfl rfl rfl
    exact (sm_one (sm_ret (em_and (em_isa (isa_TF T.ow3 T.kt3_str) (.ty _) T.z_isinstance (em_v 0) (pe_bltn rfl T.z_str (v := .ty "str") (by rfl) rfl)) (em_and (em_cmp (br_eq hu) (em_sl (em_v 0) (om_none) (om_some (em_int))) (em_str) (nomark _)) (em_one (em_call tk (ok_is_word T) (hr.mono (by first | decide | omega)) T.g_is_word T.k_is_word T.b_is_word (am_cons (em_sl (em_v 0) (om_some (em_int)) (om_none)) (am_nil)))))))))
def m_is_token : M Fl := mRet (mB (mOr (mTest (mCall f_is_word [mVar 0])) (mTest (mCall f_is_note [mVar 0]))))
def f_is_token : List PV → Option RO := runP N_is_token.length m_is_token
theorem ok_is_token (T : Txt K mg cl fa fd dT11) : FnOk P w K mg base (L2N.CX P w) 3 (fa 6) (fd 6) ["thing"] (spP K cl 1 f_is_token) :=
  fnP (k := 2) (m := m_is_token) T.F_is_token sc_is_token (fun cdv A outer s H E hr => by
    have hu := hu64 hr
    have tk : L2N.Takes (cxOf (L2N.CX P w) P w K mg base N_is_token "is_token" (defScope s_is_token) (fa 6) cdv A outer s H E) (fun c d _ H' => E c d H') := L2N.takes_of rfl rfl rfl rfl
    exact (sm_one (sm_ret (em_or (em_call tk (ok_is_word T) (hr.mono (by first | decide | omega)) T.g_is_word T.k_is_word T.b_is_word (am_cons (em_v 0) (am_nil))) (em_one (em_call tk (ok_is_note T) (hr.mono (by first | decide | omega)) T.g_is_note T.k_is_note T.b_is_note (am_cons (em_v 0) (am_nil))))))))
def m_is_pattern : M Fl := mSeq (mIf (mOr (mNot (mTru (mIsa (ansT (ocF 3) "tuple") (mVar 0)))) (mNot (mTest (mChain pLeI pLeI (mK (.int 1)) (mCBV pLen 0) (mK (.int 3)))))) (mRet (mK (.bl false))) (mNx)) (mSeq (mFor (mEnum (mVar 0)) (gT [gN 1, gN 2]) (mIf (mTest (mBin pEq (mVar 2) (mK (.str "_")))) (mIf (mOr (mTest (mBin pNe (mVar 1) (mK (.int 1)))) (mTest (mBin pNe (mCBV pLen 0) (mK (.int 3))))) (mRet (mK (.bl false))) (mNx)) (mIf (mNot (mTru (mCall f_is_word [mVar 2]))) (mRet (mK (.bl false))) (mNx)))) (mRet (mK (.bl true))))
def f_is_pattern : List PV → Option RO := runP N_is_pattern.length m_is_pattern
theorem ok_is_pattern (T : Txt K mg cl fa fd dT11) : FnOk P w K mg base (L2N.CX P w) 2 (fa 7) (fd 7) ["thing"] (spP K cl 1 f_is_pattern) :=
  fnP (k := 1) (m := m_is_pattern) T.F_is_pattern sc_is_pattern (fun cdv A outer s H E hr => by
    have hu := hu64 hr
    have tk : L2N.Takes (cxOf (L2N.CX P w) P w K mg base N_is_pattern "is_pattern" (defScope s_is_pattern) (fa 7) cdv A outer s H E) (fun c d _ H' => E c d H') := L2N.takes_of rfl rfl rfl rfl
    exact (sm_cons (sm_if (tm_w (wm_or (tm_not (tm_tru (em_isa (isa_TF T.ow3 T.kt3_tuple) (.ty _) T.z_isinstance (em_v 0) (pe_bltn rfl T.z_tuple (v := .ty "tuple") (by rfl) rfl)))) (wm_or1 (tm_not (tm_chain br_le br_le (em_int) (em_cbV cr_lenA cs_len T.z_len (pv 0)) (em_int)))))) (sm_one (sm_ret (em_bl))) (sm_nil))
      (sm_cons (sm_for (passes_of rfl) rfl (im_enum (em_v 0) T.z_enumerate) (gm_of (pg_tup rfl (pgs_cons (pg_name (i := 1) sc_is_pattern.nd rfl (by first | exact Or.inl rfl | exact Or.inr rfl)) (pgs_cons (pg_name (i := 2) sc_is_pattern.nd rfl (by first | exact Or.inl rfl | exact Or.inr rfl)) (pgs_nil)))) (does_gT (does_gCons does_gN (does_gCons does_gN (does_gNil))) rfl)) (sm_one (sm_if (tm_cmp (br_eq hu) (em_v 2) (em_gstr T.gs_GAP) (nomark _)) (sm_one (sm_if (tm_w (wm_or (tm_cmp (br_ne hu) (em_v 1) (em_int) (nomark _)) (wm_or1 (tm_cmp (br_ne hu) (em_cbV cr_lenA cs_len T.z_len (pv 0)) (em_int) (nomark _))))) (sm_one (sm_ret (em_bl))) (sm_nil))) (sm_one (sm_if (tm_not (tm_tru (em_call tk (ok_is_word T) (hr.mono (by first | decide | omega)) T.g_is_word T.k_is_word T.b_is_word (am_cons (em_v 2) (am_nil))))) (sm_one (sm_ret (em_bl))) (sm_nil))))))
      (sm_one (sm_ret (em_bl))))))
def m_are_items : M Fl := mSeq (mIf (mOr (mNot (mTru (mIsa (ansT (ocF 3) "tuple") (mVar 0)))) (mTest (mBin pGtI (mCBV pLen 0) (mK (.int 6))))) (mRet (mK (.bl false))) (mNx)) (mSeq (mFor (mIterA (mVar 0)) (gN 1) (mIf (mAnd (mTest (mBin pNe (mVar 1) (mK (.str "_")))) (mNot (mTru (mCall f_is_token [mVar 1])))) (mRet (mK (.bl false))) (mNx))) (mRet (mK (.bl true))))
def f_are_items : List PV → Option RO := runP N_are_items.length m_are_items
theorem ok_are_items (T : Txt K mg cl fa fd dT11) : FnOk P w K mg base (L2N.CX P w) 4 (fa 8) (fd 8) ["thing"] (spP K cl 1 f_are_items) :=
  fnP (k := 3) (m := m_are_items) T.F_are_items sc_are_items (fun cdv A outer s H E hr => by
    have hu := hu64 hr
    have tk : L2N.Takes (cxOf (L2N.CX P w) P w K mg base N_are_items "are_items" (defScope s_are_items) (fa 8) cdv A outer s H E) (fun c d _ H' => E c d H') := L2N.takes_of rfl rfl rfl rfl
    exact (sm_cons (sm_if (tm_w (wm_or (tm_not (tm_tru (em_isa (isa_TF T.ow3 T.kt3_tuple) (.ty _) T.z_isinstance (em_v 0) (pe_bltn rfl T.z_tuple (v := .ty "tuple") (by rfl) rfl)))) (wm_or1 (tm_cmp br_gt (em_cbV cr_lenA cs_len T.z_len (pv 0)) (em_int) (nomark _))))) (sm_one (sm_ret (em_bl))) (sm_nil))
      (sm_cons (sm_for (passes_of rfl) rfl (im_any (em_v 0)) (gm_of (pg_name (i := 1) sc_are_items.nd rfl (by first | exact Or.inl rfl | exact Or.inr rfl)) (does_gN)) (sm_one (sm_if (tm_w (wm_and (tm_cmp (br_ne hu) (em_v 1) (em_gstr T.gs_GAP) (nomark _)) (wm_and1 (tm_not (tm_tru (em_call tk (ok_is_token T) (hr.mono (by first | decide | omega)) T.g_is_token T.k_is_token T.b_is_token (am_cons (em_v 1) (am_nil)))))))) (sm_one (sm_ret (em_bl))) (sm_nil))))
      (sm_one (sm_ret (em_bl))))))
def m_is_way : M Fl := mSeq (mSet 2 (mCall f_deep [mVar 0])) (mSeq (mIf (mNot (mTru (mCall f_are_items [mVar 2]))) (mRet (mK (.bl false))) (mNx)) (mRet (mBin pEq (mCB pLen [mLc [3] (mIterA (mVar 2)) (gN 3) (mTest (mBin pEq (mVar 3) (mK (.str "_")))) (mVar 3)]) (mIfE (mTru (mVar 1)) (mK (.int 1)) (mK (.int 0))))))
def f_is_way : List PV → Option RO := runP N_is_way.length m_is_way
theorem ok_is_way (T : Txt K mg cl fa fd dT11) : FnOk P w K mg base (L2N.CX P w) 9 (fa 9) (fd 9) ["thing", "gap"] (spP K cl 2 f_is_way) :=
  fnP (k := 8) (m := m_is_way) T.F_is_way sc_is_way (fun cdv A outer s H E hr => by
    have hu := hu64 hr
    have tk : L2N.Takes (cxOf (L2N.CX P w) P w K mg base N_is_way "is_way" (defScope s_is_way) (fa 9) cdv A outer s H E) (fun c d _ H' => E c d H') := L2N.takes_of rfl rfl rfl rfl
    exact (sm_cons (sm_set (i := 2) sc_is_way.nd rfl (by first | exact Or.inl rfl | exact Or.inr rfl) (em_call tk (ok_deep T) (hr.mono (by first | decide | omega)) T.g_deep T.k_deep T.b_deep (am_cons (em_v 0) (am_nil))))
      (sm_cons (sm_if (tm_not (tm_tru (em_call tk (ok_are_items T) (hr.mono (by first | decide | omega)) T.g_are_items T.k_are_items T.b_are_items (am_cons (em_v 2) (am_nil))))) (sm_one (sm_ret (em_bl))) (sm_nil))
      (sm_one (sm_ret (em_cmp (br_eq hu) (em_cb cr_lenA cs_len T.z_len (am_cons (LcM.em (LcM.mk (own := [("item", 3)]) (im_any (em_v 2)) (blkOk_by (own := [("item", 3)]) (N := N_is_way) (sc := defScope s_is_way) (by decide +kernel)) (blk_tg (fun _ _ _ _ _ => pg_name (i := 3) sc_is_way.nd rfl (by first | exact Or.inl rfl | exact Or.inr rfl)) (does_gN) (gin_N (by decide))) (blk_ts fun _ _ _ _ _ => ts_one (tm_cmp (br_eq hu) (em_v 3) (em_gstr T.gs_GAP) (nomark _))) (blk_em fun _ _ _ _ _ => em_v 3)) rfl sc_is_way.nd) (am_nil))) (em_ife (tm_tru (em_v 1)) (em_int) (em_int)) (nomark _)))))))
def m_is_scope : M Fl := mSeq (mSet 1 (mCall f_deep [mVar 0])) (mSeq (mIf (mOr (mNot (mTru (mIsa (ansT (ocF 3) "tuple") (mVar 1)))) (mNot (mTest (mChain pLeI pLeI (mK (.int 1)) (mCBV pLen 1) (mK (.int 2)))))) (mRet (mK (.bl false))) (mNx)) (mSeq (mIf (mNot (mTru (mIsa (ansT (ocF 3) "str") (mIxV 1 (mK (.int 0)))))) (mRet (mK (.bl false))) (mNx)) (mSeq (mIf (mTest (mBin pEq (mCBV pLen 1) (mK (.int 1)))) (mRet (mBin pHas (mIxV 1 (mK (.int 0))) (mK (.tup [.str "work", .str "plain", .str "quoted"])))) (mNx)) (mRet (mB (mAnd (mTest (mBin pHas (mIxV 1 (mK (.int 0))) (mK (.tup [.str "in", .str "behind"])))) (mTest (mCall f_is_word [mIxV 1 (mK (.int 1))]))))))))
def f_is_scope : List PV → Option RO := runP N_is_scope.length m_is_scope
theorem ok_is_scope (T : Txt K mg cl fa fd dT11) : FnOk P w K mg base (L2N.CX P w) 9 (fa 10) (fd 10) ["thing"] (spP K cl 1 f_is_scope) :=
  fnP (k := 8) (m := m_is_scope) T.F_is_scope sc_is_scope (fun cdv A outer s H E hr => by
    have hu := hu64 hr
    have tk : L2N.Takes (cxOf (L2N.CX P w) P w K mg base N_is_scope "is_scope" (defScope s_is_scope) (fa 10) cdv A outer s H E) (fun c d _ H' => E c d H') := L2N.takes_of rfl rfl rfl rfl
    exact (sm_cons (sm_set (i := 1) sc_is_scope.nd rfl (by first | exact Or.inl rfl | exact Or.inr rfl) (em_call tk (ok_deep T) (hr.mono (by first | decide | omega)) T.g_deep T.k_deep T.b_deep (am_cons (em_v 0) (am_nil))))
      (sm_cons (sm_if (tm_w (wm_or (tm_not (tm_tru (em_isa (isa_TF T.ow3 T.kt3_tuple) (.ty _) T.z_isinstance (em_v 1) (pe_bltn rfl T.z_tuple (v := .ty "tuple") (by rfl) rfl)))) (wm_or1 (tm_not (tm_chain br_le br_le (em_int) (em_cbV cr_lenA cs_len T.z_len (pv 1)) (em_int)))))) (sm_one (sm_ret (em_bl))) (sm_nil))
      (sm_cons (sm_if (tm_not (tm_tru (em_isa (isa_TF T.ow3 T.kt3_str) (.ty _) T.z_isinstance (em_ixV hu (pv 1) (em_int)) (pe_bltn rfl T.z_str (v := .ty "str") (by rfl) rfl)))) (sm_one (sm_ret (em_bl))) (sm_nil))
      (sm_cons (sm_if (tm_cmp (br_eq hu) (em_cbV cr_lenA cs_len T.z_len (pv 1)) (em_int) (nomark _)) (sm_one (sm_ret (em_cmp (br_has hu) (em_ixV hu (pv 1) (em_int)) (em_gtup (x := "PLAIN_SCOPES") (us := ["work", "plain", "quoted"]) T.gs_PLAIN_SCOPES) rfl))) (sm_nil))
      (sm_one (sm_ret (em_and (em_cmp (br_has hu) (em_ixV hu (pv 1) (em_int)) (em_gtup (x := "SCOPES_OF_A_WORD") (us := ["in", "behind"]) T.gs_SCOPES_OF_A_WORD) rfl) (em_one (em_call tk (ok_is_word T) (hr.mono (by first | decide | omega)) T.g_is_word T.k_is_word T.b_is_word (am_cons (em_ixV hu (pv 1) (em_int)) (am_nil))))))))))))
def m_Term___init__ : M Fl := mSeq (mIf (mNot (mTru (mCall f_is_word [mVar 1]))) (mRaise 1 [("word", 0)] [mK (.str "name")]) (mNx)) (mSeq (mSet 7 (mCall f_deep [mVar 2])) (mSeq (mIf (mNot (mTru (mCall f_is_pattern [mVar 7]))) (mRaise 1 [("word", 0)] [mK (.str "pattern")]) (mNx)) (mSeq (mSet 8 (mBin pHas (mK (.str "_")) (mVar 7))) (mSeq (mSet 9 (mCall f_deep [mVar 3])) (mSeq (mIf (mOr (mNot (mTru (mIsa (ansT (ocF 3) "tuple") (mVar 9)))) (mNot (mTest (mChain pLeI pLeI (mK (.int 1)) (mCBV pLen 9) (mK (.int 3)))))) (mRaise 1 [("word", 0)] [mK (.str "ways")]) (mNx)) (mSeq (mIf (mNot (mTru (mCB pAll [mLc [10] (mIterA (mVar 9)) (gN 10) mYes (mCall f_is_way [mVar 10, mVar 8])]))) (mRaise 1 [("word", 0)] [mK (.str "ways")]) (mNx)) (mSeq (mIf (mNot (mTru (mCall f_is_scope [mVar 4]))) (mRaise 1 [("word", 0)] [mK (.str "scope")]) (mNx)) (mSeq (mIf (mAnd (mTest (mIsN true (mVar 5))) (mNot (mTru (mCall f_is_way [mVar 5, mVar 8])))) (mRaise 1 [("word", 0)] [mK (.str "first")]) (mNx)) (mSeq (mIf (mAnd (mTest (mIsN true (mVar 6))) (mNot (mTru (mCall f_is_word [mVar 6])))) (mRaise 1 [("word", 0)] [mK (.str "turn")]) (mNx)) (mSeq (mSetF 0 3 "name" (mVar 1)) (mSeq (mSetF 0 3 "pattern" (mVar 7)) (mSeq (mSetF 0 3 "ways" (mVar 9)) (mSeq (mSetF 0 3 "scope" (mCall f_deep [mVar 4])) (mSeq (mSetF 0 3 "first" (mCall f_deep [mVar 5])) (mSetF 0 3 "turn" (mVar 6))))))))))))))))
def f_Term___init__ : PV → List PV → Option (PV × RO) := runI N_Term___init__.length m_Term___init__
theorem ok_Term___init__ (T : Txt K mg cl fa fd dT11) : FnOk P w K mg base (L2N.CX P w) 10 (fa 11) (fd 11) ["self", "name", "pattern", "ways", "scope", "first", "turn"] (spI K cl 7 f_Term___init__) :=
  fnIK (k := 9) (m := m_Term___init__) T.D_Term___init__ sc_Term___init__ (fun cdv A outer s H E hr => by
    have hu := hu64 hr
    have tk : L2N.Takes (cxOf (L2N.CX P w) P w K mg base N_Term___init__ "Term.__init__" (defScope s_Term___init__) (fa 11) cdv A outer s H E) (fun c d _ H' => E c d H') := L2N.takes_of rfl rfl rfl rfl
    exact (sm_cons (sm_if (tm_not (tm_tru (em_call tk (ok_is_word T) (hr.mono (by first | decide | omega)) T.g_is_word T.k_is_word T.b_is_word (am_cons (em_v 1) (am_nil))))) (sm_one (sm_raise (c := 1) (fl := [("word", 0)]) rfl tk T.x1 T.i1 T.t1 (ok_BadTerm___init__ T) (hr.mono (by first | decide | omega)) T.b_BadTerm___init__ T.g_BadTerm (am_cons (em_str) (am_nil)))) (sm_nil))
      (sm_cons (sm_set (i := 7) sc_Term___init__.nd rfl (by first | exact Or.inl rfl | exact Or.inr rfl) (em_call tk (ok_deep T) (hr.mono (by first | decide | omega)) T.g_deep T.k_deep T.b_deep (am_cons (em_v 2) (am_nil))))
      (sm_cons (sm_if (tm_not (tm_tru (em_call tk (ok_is_pattern T) (hr.mono (by first | decide | omega)) T.g_is_pattern T.k_is_pattern T.b_is_pattern (am_cons (em_v 7) (am_nil))))) (sm_one (sm_raise (c := 1) (fl := [("word", 0)]) rfl tk T.x1 T.i1 T.t1 (ok_BadTerm___init__ T) (hr.mono (by first | decide | omega)) T.b_BadTerm___init__ T.g_BadTerm (am_cons (em_str) (am_nil)))) (sm_nil))
      (sm_cons (sm_set (i := 8) sc_Term___init__.nd rfl (by first | exact Or.inl rfl | exact Or.inr rfl) (em_cmp (br_has hu) (em_gstr T.gs_GAP) (em_v 7) rfl))
      (sm_cons (sm_set (i := 9) sc_Term___init__.nd rfl (by first | exact Or.inl rfl | exact Or.inr rfl) (em_call tk (ok_deep T) (hr.mono (by first | decide | omega)) T.g_deep T.k_deep T.b_deep (am_cons (em_v 3) (am_nil))))
      (sm_cons (sm_if (tm_w (wm_or (tm_not (tm_tru (em_isa (isa_TF T.ow3 T.kt3_tuple) (.ty _) T.z_isinstance (em_v 9) (pe_bltn rfl T.z_tuple (v := .ty "tuple") (by rfl) rfl)))) (wm_or1 (tm_not (tm_chain br_le br_le (em_int) (em_cbV cr_lenA cs_len T.z_len (pv 9)) (em_int)))))) (sm_one (sm_raise (c := 1) (fl := [("word", 0)]) rfl tk T.x1 T.i1 T.t1 (ok_BadTerm___init__ T) (hr.mono (by first | decide | omega)) T.b_BadTerm___init__ T.g_BadTerm (am_cons (em_str) (am_nil)))) (sm_nil))
      (sm_cons (sm_if (tm_not (tm_tru (em_cb (cr_all rfl) cs_all T.z_all (am_cons (LcM.em (LcM.mk (own := [("row", 10)]) (im_any (em_v 9)) (blkOk_by (own := [("row", 10)]) (N := N_Term___init__) (sc := defScope s_Term___init__) (by decide +kernel)) (blk_tg (fun _ _ _ _ _ => pg_name (i := 10) sc_Term___init__.nd rfl (by first | exact Or.inl rfl | exact Or.inr rfl)) (does_gN) (gin_N (by decide))) (blk_ts fun _ _ _ _ _ => ts_nil) (blk_em fun _ _ _ _ _ => em_call takes_W0 (ok_is_way T) (hr.mono (by first | decide | omega)) T.g_is_way T.k_is_way T.b_is_way (am_cons (em_v 10) (am_cons (em_v 8) (am_nil))))) rfl sc_Term___init__.nd) (am_nil))))) (sm_one (sm_raise (c := 1) (fl := [("word", 0)]) rfl tk T.x1 T.i1 T.t1 (ok_BadTerm___init__ T) (hr.mono (by first | decide | omega)) T.b_BadTerm___init__ T.g_BadTerm (am_cons (em_str) (am_nil)))) (sm_nil))
      (sm_cons (sm_if (tm_not (tm_tru (em_call tk (ok_is_scope T) (hr.mono (by first | decide | omega)) T.g_is_scope T.k_is_scope T.b_is_scope (am_cons (em_v 4) (am_nil))))) (sm_one (sm_raise (c := 1) (fl := [("word", 0)]) rfl tk T.x1 T.i1 T.t1 (ok_BadTerm___init__ T) (hr.mono (by first | decide | omega)) T.b_BadTerm___init__ T.g_BadTerm (am_cons (em_str) (am_nil)))) (sm_nil))
      (sm_cons (sm_if (tm_w (wm_and (tm_notN (em_v 5)) (wm_and1 (tm_not (tm_tru (em_call tk (ok_is_way T) (hr.mono (by first | decide | omega)) T.g_is_way T.k_is_way T.b_is_way (am_cons (em_v 5) (am_cons (em_v 8) (am_nil))))))))) (sm_one (sm_raise (c := 1) (fl := [("word", 0)]) rfl tk T.x1 T.i1 T.t1 (ok_BadTerm___init__ T) (hr.mono (by first | decide | omega)) T.b_BadTerm___init__ T.g_BadTerm (am_cons (em_str) (am_nil)))) (sm_nil))
      (sm_cons (sm_if (tm_w (wm_and (tm_notN (em_v 6)) (wm_and1 (tm_not (tm_tru (em_call tk (ok_is_word T) (hr.mono (by first | decide | omega)) T.g_is_word T.k_is_word T.b_is_word (am_cons (em_v 6) (am_nil)))))))) (sm_one (sm_raise (c := 1) (fl := [("word", 0)]) rfl tk T.x1 T.i1 T.t1 (ok_BadTerm___init__ T) (hr.mono (by first | decide | omega)) T.b_BadTerm___init__ T.g_BadTerm (am_cons (em_str) (am_nil)))) (sm_nil))
      (sm_cons (sm_setF (c := 3) T.c3 T.n3_name (pv 0) (em_v 1))
      (sm_cons (sm_setF (c := 3) T.c3 T.n3_pattern (pv 0) (em_v 7))
      (sm_cons (sm_setF (c := 3) T.c3 T.n3_ways (pv 0) (em_v 9))
      (sm_cons (sm_setF (c := 3) T.c3 T.n3_scope (pv 0) (em_call tk (ok_deep T) (hr.mono (by first | decide | omega)) T.g_deep T.k_deep T.b_deep (am_cons (em_v 4) (am_nil))))
      (sm_cons (sm_setF (c := 3) T.c3 T.n3_first (pv 0) (em_call tk (ok_deep T) (hr.mono (by first | decide | omega)) T.g_deep T.k_deep T.b_deep (am_cons (em_v 5) (am_nil))))
      (sm_one (sm_setF (c := 3) T.c3 T.n3_turn (pv 0) (em_v 6)))))))))))))))))))
def m_keyed_term : M Fl := mSeq (mSet 1 (mIfE (mTest (mIsN false (mFldV 0 3 "first"))) (mTup []) (mTup [mFldV 0 3 "first"]))) (mSeq (mSet 2 (mIfE (mTest (mIsN false (mFldV 0 3 "turn"))) (mTup []) (mTup [mFldV 0 3 "turn"]))) (mRet (mTup [mFldV 0 3 "name", mFldV 0 3 "pattern", mFldV 0 3 "ways", mFldV 0 3 "scope", mVar 1, mVar 2])))
def f_keyed_term : List PV → Option RO := runP N_keyed_term.length m_keyed_term
theorem ok_keyed_term (T : Txt K mg cl fa fd dT11) : FnOk P w K mg base (L2N.CX P w) 1 (fa 15) (fd 15) ["term"] (spP K cl 1 f_keyed_term) :=
  fnP (k := 0) (m := m_keyed_term) T.F_keyed_term sc_keyed_term (fun cdv A outer s H E hr => by
    have hu := hu64 hr
    have tk : L2N.Takes (cxOf (L2N.CX P w) P w K mg base N_keyed_term "keyed_term" (defScope s_keyed_term) (fa 15) cdv A outer s H E) (fun c d _ H' => E c d H') := L2N.takes_of rfl rfl rfl rfl
    exact (sm_cons (sm_set (i := 1) sc_keyed_term.nd rfl (by first | exact Or.inl rfl | exact Or.inr rfl) (em_ife (tm_isN (em_fldV (c := 3) (pv 0) T.c3 T.n3_first)) (em_tup (am_nil)) (em_tup (am_cons (em_fldV (c := 3) (pv 0) T.c3 T.n3_first) (am_nil)))))
      (sm_cons (sm_set (i := 2) sc_keyed_term.nd rfl (by first | exact Or.inl rfl | exact Or.inr rfl) (em_ife (tm_isN (em_fldV (c := 3) (pv 0) T.c3 T.n3_turn)) (em_tup (am_nil)) (em_tup (am_cons (em_fldV (c := 3) (pv 0) T.c3 T.n3_turn) (am_nil)))))
      (sm_one (sm_ret (em_tup (am_cons (em_fldV (c := 3) (pv 0) T.c3 T.n3_name) (am_cons (em_fldV (c := 3) (pv 0) T.c3 T.n3_pattern) (am_cons (em_fldV (c := 3) (pv 0) T.c3 T.n3_ways) (am_cons (em_fldV (c := 3) (pv 0) T.c3 T.n3_scope) (am_cons (em_v 1) (am_cons (em_v 2) (am_nil)))))))))))))
def m_Lines___init__ : M Fl := mSeq (mSetF 0 4 "texts" (mCB pList [mVar 1])) (mSetF 0 4 "place" (mK (.int 0)))
def f_Lines___init__ : PV → List PV → Option (PV × RO) := runI N_Lines___init__.length m_Lines___init__
theorem ok_Lines___init__ (T : Txt K mg cl fa fd dT11) : FnOk P w K mg base (L2N.CX P w) 1 (fa 16) (fd 16) ["self", "texts"] (spI K cl 2 f_Lines___init__) :=
  fnI (k := 0) (m := m_Lines___init__) T.F_Lines___init__ sc_Lines___init__ (fun cdv A outer s H E hr => by
    have hu := hu64 hr
    have tk : L2N.Takes (cxOf (L2N.CX P w) P w K mg base N_Lines___init__ "Lines.__init__" (defScope s_Lines___init__) (fa 16) cdv A outer s H E) (fun c d _ H' => E c d H') := L2N.takes_of rfl rfl rfl rfl
    exact (sm_cons (sm_setF (c := 4) T.c4 T.n4_texts (pv 0) (em_fm (fm_ct cr_list cs_list T.z_list (am_cons (em_v 1) (am_nil)))))
      (sm_one (sm_setF (c := 4) T.c4 T.n4_place (pv 0) (em_int)))))
def m_Lines_line_number : M Fl := mRet (mFldV 0 4 "place")
def f_Lines_line_number : PV → List PV → Option (PV × RO) := runI N_Lines_line_number.length m_Lines_line_number
theorem ok_Lines_line_number (T : Txt K mg cl fa fd dT11) : FnOk P w K mg base (L2N.CX P w) 1 (fa 17) (fd 17) ["self"] (spI K cl 1 f_Lines_line_number) :=
  fnI (k := 0) (m := m_Lines_line_number) T.F_Lines_line_number sc_Lines_line_number (fun cdv A outer s H E hr => by
    have hu := hu64 hr
    have tk : L2N.Takes (cxOf (L2N.CX P w) P w K mg base N_Lines_line_number "Lines.line_number" (defScope s_Lines_line_number) (fa 17) cdv A outer s H E) (fun c d _ H' => E c d H') := L2N.takes_of rfl rfl rfl rfl
    exact (sm_one (sm_ret (em_fldV (c := 4) (pv 0) T.c4 T.n4_place))))
def m_Lines_line_words : M Fl := mSeq (mIf (mOr (mTest (mBin pGeI (mFldV 0 4 "place") (mCB pLen [mFldV 0 4 "texts"]))) (mNot (mTru (mIsa (ansT (ocF 3) "str") (mBin pIx (mFldV 0 4 "texts") (mFldV 0 4 "place")))))) (mRaise 2 [("line", 0), ("word", 1)] [mFldV 0 4 "place", mK (.int 0)]) (mNx)) (mRet (mBinS pSplit (mBin pIx (mFldV 0 4 "texts") (mFldV 0 4 "place")) (mK (.str " "))))
def f_Lines_line_words : PV → List PV → Option (PV × RO) := runI N_Lines_line_words.length m_Lines_line_words
theorem ok_Lines_line_words (T : Txt K mg cl fa fd dT11) : FnOk P w K mg base (L2N.CX P w) 3 (fa 18) (fd 18) ["self"] (spI K cl 1 f_Lines_line_words) :=
  fnI (k := 2) (m := m_Lines_line_words) T.F_Lines_line_words sc_Lines_line_words (fun cdv A outer s H E hr => by
    have hu := hu64 hr
    have tk : L2N.Takes (cxOf (L2N.CX P w) P w K mg base N_Lines_line_words "Lines.line_words" (defScope s_Lines_line_words) (fa 18) cdv A outer s H E) (fun c d _ H' => E c d H') := L2N.takes_of rfl rfl rfl rfl
    exact (sm_cons (sm_if (tm_w (wm_or (tm_cmp br_ge (em_fldV (c := 4) (pv 0) T.c4 T.n4_place) (em_cb cr_lenA cs_len T.z_len (am_cons (em_fldV (c := 4) (pv 0) T.c4 T.n4_texts) (am_nil))) (nomark _)) (wm_or1 (tm_not (tm_tru (em_isa (isa_TF T.ow3 T.kt3_str) (.ty _) T.z_isinstance (em_ix hu (em_fldV (c := 4) (pv 0) T.c4 T.n4_texts) (em_fldV (c := 4) (pv 0) T.c4 T.n4_place)) (pe_bltn rfl T.z_str (v := .ty "str") (by rfl) rfl))))))) (sm_one (sm_raise (c := 2) (fl := [("line", 0), ("word", 1)]) rfl tk T.x2 T.i2 T.t2 (ok_BadLine___init__ T) (hr.mono (by first | decide | omega)) T.b_BadLine___init__ T.g_BadLine (am_cons (em_fldV (c := 4) (pv 0) T.c4 T.n4_place) (am_cons (em_int) (am_nil))))) (sm_nil))
      (sm_one (sm_ret (em_split (em_ix hu (em_fldV (c := 4) (pv 0) T.c4 T.n4_texts) (em_fldV (c := 4) (pv 0) T.c4 T.n4_place)) (em_str))))))
def m_Lines_first_word : M Fl := mSeq (mIf (mTest (mBin pGeI (mFldV 0 4 "place") (mCB pLen [mFldV 0 4 "texts"]))) (mRet (mK .non)) (mNx)) (mRet (mBin pIx (mMethI 0 4 "line_words" f_Lines_line_words []) (mK (.int 0))))
def f_Lines_first_word : PV → List PV → Option (PV × RO) := runI N_Lines_first_word.length m_Lines_first_word
theorem ok_Lines_first_word (T : Txt K mg cl fa fd dT11) : FnOk P w K mg base (L2N.CX P w) 4 (fa 19) (fd 19) ["self"] (spI K cl 1 f_Lines_first_word) :=
  fnI (k := 3) (m := m_Lines_first_word) T.F_Lines_first_word sc_Lines_first_word (fun cdv A outer s H E hr => by
    have hu := hu64 hr
    have tk : L2N.Takes (cxOf (L2N.CX P w) P w K mg base N_Lines_first_word "Lines.first_word" (defScope s_Lines_first_word) (fa 19) cdv A outer s H E) (fun c d _ H' => E c d H') := L2N.takes_of rfl rfl rfl rfl
    exact (sm_cons (sm_if (tm_cmp br_ge (em_fldV (c := 4) (pv 0) T.c4 T.n4_place) (em_cb cr_lenA cs_len T.z_len (am_cons (em_fldV (c := 4) (pv 0) T.c4 T.n4_texts) (am_nil))) (nomark _)) (sm_one (sm_ret (em_non))) (sm_nil))
      (sm_one (sm_ret (em_ix hu (em_methI0 (i := 0) (c := 4) tk T.c4 T.mm4_line_words (ok_Lines_line_words T) (hr.mono (by first | decide | omega)) T.b_Lines_line_words (pv 0)) (em_int))))))
def m_Lines_many_words : M Fl := mRet (mCB pLen [mMethI 0 4 "line_words" f_Lines_line_words []])
def f_Lines_many_words : PV → List PV → Option (PV × RO) := runI N_Lines_many_words.length m_Lines_many_words
theorem ok_Lines_many_words (T : Txt K mg cl fa fd dT11) : FnOk P w K mg base (L2N.CX P w) 4 (fa 20) (fd 20) ["self"] (spI K cl 1 f_Lines_many_words) :=
  fnI (k := 3) (m := m_Lines_many_words) T.F_Lines_many_words sc_Lines_many_words (fun cdv A outer s H E hr => by
    have hu := hu64 hr
    have tk : L2N.Takes (cxOf (L2N.CX P w) P w K mg base N_Lines_many_words "Lines.many_words" (defScope s_Lines_many_words) (fa 20) cdv A outer s H E) (fun c d _ H' => E c d H') := L2N.takes_of rfl rfl rfl rfl
    exact (sm_one (sm_ret (em_cb cr_lenA cs_len T.z_len (am_cons (em_methI0 (i := 0) (c := 4) tk T.c4 T.mm4_line_words (ok_Lines_line_words T) (hr.mono (by first | decide | omega)) T.b_Lines_line_words (pv 0)) (am_nil))))))
def m_Lines_word_at : M Fl := mSeq (mSet 2 (mMethI 0 4 "line_words" f_Lines_line_words [])) (mSeq (mIf (mTest (mBin pGeI (mVar 1) (mCBV pLen 2))) (mRaise 2 [("line", 0), ("word", 1)] [mFldV 0 4 "place", mCBV pLen 2]) (mNx)) (mRet (mIxV 2 (mVar 1))))
def f_Lines_word_at : PV → List PV → Option (PV × RO) := runI N_Lines_word_at.length m_Lines_word_at
theorem ok_Lines_word_at (T : Txt K mg cl fa fd dT11) : FnOk P w K mg base (L2N.CX P w) 4 (fa 21) (fd 21) ["self", "k"] (spI K cl 2 f_Lines_word_at) :=
  fnI (k := 3) (m := m_Lines_word_at) T.F_Lines_word_at sc_Lines_word_at (fun cdv A outer s H E hr => by
    have hu := hu64 hr
    have tk : L2N.Takes (cxOf (L2N.CX P w) P w K mg base N_Lines_word_at "Lines.word_at" (defScope s_Lines_word_at) (fa 21) cdv A outer s H E) (fun c d _ H' => E c d H') := L2N.takes_of rfl rfl rfl rfl
    exact (sm_cons (sm_set (i := 2) sc_Lines_word_at.nd rfl (by first | exact Or.inl rfl | exact Or.inr rfl) (em_methI0 (i := 0) (c := 4) tk T.c4 T.mm4_line_words (ok_Lines_line_words T) (hr.mono (by first | decide | omega)) T.b_Lines_line_words (pv 0)))
      (sm_cons (sm_if (tm_cmp br_ge (em_v 1) (em_cbV cr_lenA cs_len T.z_len (pv 2)) (nomark _)) (sm_one (sm_raise (c := 2) (fl := [("line", 0), ("word", 1)]) rfl tk T.x2 T.i2 T.t2 (ok_BadLine___init__ T) (hr.mono (by first | decide | omega)) T.b_BadLine___init__ T.g_BadLine (am_cons (em_fldV (c := 4) (pv 0) T.c4 T.n4_place) (am_cons (em_cbV cr_lenA cs_len T.z_len (pv 2)) (am_nil))))) (sm_nil))
      (sm_one (sm_ret (em_ixV hu (pv 2) (em_v 1)))))))
def m_Lines_fail_at : M Fl := mRaise 2 [("line", 0), ("word", 1)] [mFldV 0 4 "place", mVar 1]
def f_Lines_fail_at : PV → List PV → Option (PV × RO) := runI N_Lines_fail_at.length m_Lines_fail_at
theorem ok_Lines_fail_at (T : Txt K mg cl fa fd dT11) : FnOk P w K mg base (L2N.CX P w) 3 (fa 23) (fd 23) ["self", "k"] (spI K cl 2 f_Lines_fail_at) :=
  fnI (k := 2) (m := m_Lines_fail_at) T.F_Lines_fail_at sc_Lines_fail_at (fun cdv A outer s H E hr => by
    have hu := hu64 hr
    have tk : L2N.Takes (cxOf (L2N.CX P w) P w K mg base N_Lines_fail_at "Lines.fail_at" (defScope s_Lines_fail_at) (fa 23) cdv A outer s H E) (fun c d _ H' => E c d H') := L2N.takes_of rfl rfl rfl rfl
    exact (sm_one (sm_raise (c := 2) (fl := [("line", 0), ("word", 1)]) rfl tk T.x2 T.i2 T.t2 (ok_BadLine___init__ T) (hr.mono (by first | decide | omega)) T.b_BadLine___init__ T.g_BadLine (am_cons (em_fldV (c := 4) (pv 0) T.c4 T.n4_place) (am_cons (em_v 1) (am_nil))))))
def m_Lines_name_at : M Fl := mSeq (mSet 2 (mMethI 0 4 "word_at" f_Lines_word_at [mVar 1])) (mSeq (mIf (mNot (mTru (mCall f_is_word [mVar 2]))) (mRaise 2 [("line", 0), ("word", 1)] [mFldV 0 4 "place", mVar 1]) (mNx)) (mRet (mVar 2)))
def f_Lines_name_at : PV → List PV → Option (PV × RO) := runI N_Lines_name_at.length m_Lines_name_at
theorem ok_Lines_name_at (T : Txt K mg cl fa fd dT11) : FnOk P w K mg base (L2N.CX P w) 5 (fa 24) (fd 24) ["self", "k"] (spI K cl 2 f_Lines_name_at) :=
  fnI (k := 4) (m := m_Lines_name_at) T.F_Lines_name_at sc_Lines_name_at (fun cdv A outer s H E hr => by
    have hu := hu64 hr
    have tk : L2N.Takes (cxOf (L2N.CX P w) P w K mg base N_Lines_name_at "Lines.name_at" (defScope s_Lines_name_at) (fa 24) cdv A outer s H E) (fun c d _ H' => E c d H') := L2N.takes_of rfl rfl rfl rfl
    exact (sm_cons (sm_set (i := 2) sc_Lines_name_at.nd rfl (by first | exact Or.inl rfl | exact Or.inr rfl) (em_methI (i := 0) (c := 4) tk T.c4 T.mm4_word_at (ok_Lines_word_at T) (hr.mono (by first | decide | omega)) T.b_Lines_word_at (pv 0) (am_cons (em_v 1) (am_nil))))
      (sm_cons (sm_if (tm_not (tm_tru (em_call tk (ok_is_word T) (hr.mono (by first | decide | omega)) T.g_is_word T.k_is_word T.b_is_word (am_cons (em_v 2) (am_nil))))) (sm_one (sm_raise (c := 2) (fl := [("line", 0), ("word", 1)]) rfl tk T.x2 T.i2 T.t2 (ok_BadLine___init__ T) (hr.mono (by first | decide | omega)) T.b_BadLine___init__ T.g_BadLine (am_cons (em_fldV (c := 4) (pv 0) T.c4 T.n4_place) (am_cons (em_v 1) (am_nil))))) (sm_nil))
      (sm_one (sm_ret (em_v 2))))))
def m_Lines_item_at : M Fl := mSeq (mSet 3 (mMethI 0 4 "word_at" f_Lines_word_at [mVar 1])) (mSeq (mIf (mAnd (mNot (mTru (mCall f_is_word [mVar 3]))) (mAnd (mTest (mBin pNe (mVar 3) (mK (.str "_")))) (mNot (mAnd (mTru (mVar 2)) (mTru (mCall f_is_note [mVar 3])))))) (mRaise 2 [("line", 0), ("word", 1)] [mFldV 0 4 "place", mVar 1]) (mNx)) (mRet (mVar 3)))
def f_Lines_item_at : PV → List PV → Option (PV × RO) := runI N_Lines_item_at.length m_Lines_item_at
theorem ok_Lines_item_at (T : Txt K mg cl fa fd dT11) : FnOk P w K mg base (L2N.CX P w) 5 (fa 25) (fd 25) ["self", "k", "notes"] (spI K cl 3 f_Lines_item_at) :=
  fnI (k := 4) (m := m_Lines_item_at) T.F_Lines_item_at sc_Lines_item_at (fun cdv A outer s H E hr => by
    have hu := hu64 hr
    have tk : L2N.Takes (cxOf (L2N.CX P w) P w K mg base N_Lines_item_at "Lines.item_at" (defScope s_Lines_item_at) (fa 25) cdv A outer s H E) (fun c d _ H' => E c d H') := L2N.takes_of rfl rfl rfl rfl
    exact (sm_cons (sm_set (i := 3) sc_Lines_item_at.nd rfl (by first | exact Or.inl rfl | exact Or.inr rfl) (em_methI (i := 0) (c := 4) tk T.c4 T.mm4_word_at (ok_Lines_word_at T) (hr.mono (by first | decide | omega)) T.b_Lines_word_at (pv 0) (am_cons (em_v 1) (am_nil))))
      (sm_cons (sm_if (tm_w (wm_and (tm_not (tm_tru (em_call tk (ok_is_word T) (hr.mono (by first | decide | omega)) T.g_is_word T.k_is_word T.b_is_word (am_cons (em_v 3) (am_nil))))) (wm_and (tm_cmp (br_ne hu) (em_v 3) (em_gstr T.gs_GAP) (nomark _)) (wm_and1 (tm_not (tm_w (wm_and (tm_tru (em_v 2)) (wm_and1 (tm_tru (em_call tk (ok_is_note T) (hr.mono (by first | decide | omega)) T.g_is_note T.k_is_note T.b_is_note (am_cons (em_v 3) (am_nil)))))))))))) (sm_one (sm_raise (c := 2) (fl := [("line", 0), ("word", 1)]) rfl tk T.x2 T.i2 T.t2 (ok_BadLine___init__ T) (hr.mono (by first | decide | omega)) T.b_BadLine___init__ T.g_BadLine (am_cons (em_fldV (c := 4) (pv 0) T.c4 T.n4_place) (am_cons (em_v 1) (am_nil))))) (sm_nil))
      (sm_one (sm_ret (em_v 3))))))
def m_Lines_want_word : M Fl := mIf (mTest (mBin pNe (mBin pIx (mMethI 0 4 "line_words" f_Lines_line_words []) (mK (.int 0))) (mVar 1))) (mRaise 2 [("line", 0), ("word", 1)] [mFldV 0 4 "place", mK (.int 0)]) (mNx)
def f_Lines_want_word : PV → List PV → Option (PV × RO) := runI N_Lines_want_word.length m_Lines_want_word
theorem ok_Lines_want_word (T : Txt K mg cl fa fd dT11) : FnOk P w K mg base (L2N.CX P w) 4 (fa 27) (fd 27) ["self", "word"] (spI K cl 2 f_Lines_want_word) :=
  fnI (k := 3) (m := m_Lines_want_word) T.F_Lines_want_word sc_Lines_want_word (fun cdv A outer s H E hr => by
    have hu := hu64 hr
    have tk : L2N.Takes (cxOf (L2N.CX P w) P w K mg base N_Lines_want_word "Lines.want_word" (defScope s_Lines_want_word) (fa 27) cdv A outer s H E) (fun c d _ H' => E c d H') := L2N.takes_of rfl rfl rfl rfl
    exact (sm_one (sm_if (tm_cmp (br_ne hu) (em_ix hu (em_methI0 (i := 0) (c := 4) tk T.c4 T.mm4_line_words (ok_Lines_line_words T) (hr.mono (by first | decide | omega)) T.b_Lines_line_words (pv 0)) (em_int)) (em_v 1) (nomark _)) (sm_one (sm_raise (c := 2) (fl := [("line", 0), ("word", 1)]) rfl tk T.x2 T.i2 T.t2 (ok_BadLine___init__ T) (hr.mono (by first | decide | omega)) T.b_BadLine___init__ T.g_BadLine (am_cons (em_fldV (c := 4) (pv 0) T.c4 T.n4_place) (am_cons (em_int) (am_nil))))) (sm_nil))))
def m_Lines_close_at : M Fl := mSeq (mIf (mTest (mBin pGtI (mCB pLen [mMethI 0 4 "line_words" f_Lines_line_words []]) (mVar 1))) (mRaise 2 [("line", 0), ("word", 1)] [mFldV 0 4 "place", mVar 1]) (mNx)) (mIncF 0 4 "place" 1)
def f_Lines_close_at : PV → List PV → Option (PV × RO) := runI N_Lines_close_at.length m_Lines_close_at
theorem ok_Lines_close_at (T : Txt K mg cl fa fd dT11) : FnOk P w K mg base (L2N.CX P w) 4 (fa 28) (fd 28) ["self", "k"] (spI K cl 2 f_Lines_close_at) :=
  fnI (k := 3) (m := m_Lines_close_at) T.F_Lines_close_at sc_Lines_close_at (fun cdv A outer s H E hr => by
    have hu := hu64 hr
    have tk : L2N.Takes (cxOf (L2N.CX P w) P w K mg base N_Lines_close_at "Lines.close_at" (defScope s_Lines_close_at) (fa 28) cdv A outer s H E) (fun c d _ H' => E c d H') := L2N.takes_of rfl rfl rfl rfl
    exact (sm_cons (sm_if (tm_cmp br_gt (em_cb cr_lenA cs_len T.z_len (am_cons (em_methI0 (i := 0) (c := 4) tk T.c4 T.mm4_line_words (ok_Lines_line_words T) (hr.mono (by first | decide | omega)) T.b_Lines_line_words (pv 0)) (am_nil))) (em_v 1) (nomark _)) (sm_one (sm_raise (c := 2) (fl := [("line", 0), ("word", 1)]) rfl tk T.x2 T.i2 T.t2 (ok_BadLine___init__ T) (hr.mono (by first | decide | omega)) T.b_BadLine___init__ T.g_BadLine (am_cons (em_fldV (c := 4) (pv 0) T.c4 T.n4_place) (am_cons (em_v 1) (am_nil))))) (sm_nil))
      (sm_one (sm_incF (c := 4) T.c4 T.n4_place (pv 0)))))
def m_line_of : M Fl := mRet (mBinS pJoin (mK (.str " ")) (mBin pAdd (mLst [mVar 0]) (mCB pList [mVar 1])))
def f_line_of : List PV → Option RO := runP N_line_of.length m_line_of
theorem ok_line_of (T : Txt K mg cl fa fd dT11) : FnOk P w K mg base (L2N.CX P w) 1 (fa 29) (fd 29) ["word", "row"] (spP K cl 2 f_line_of) :=
  fnP (k := 0) (m := m_line_of) T.F_line_of sc_line_of (fun cdv A outer s H E hr => by
    have hu := hu64 hr
    have tk : L2N.Takes (cxOf (L2N.CX P w) P w K mg base N_line_of "line_of" (defScope s_line_of) (fa 29) cdv A outer s H E) (fun c d _ H' => E c d H') := L2N.takes_of rfl rfl rfl rfl
    exact (sm_one (sm_ret (em_join (em_str) (em_op br_add (em_lst (am_cons (em_v 0) (am_nil))) (em_fm (fm_ct cr_list cs_list T.z_list (am_cons (em_v 1) (am_nil)))))))))
def m_write_term : M Fl := mSeq (mSetO 1 (mLst [mCall f_line_of [mK (.str "term"), mBin pAdd (mTup [mFldV 0 3 "name"]) (mFldV 0 3 "pattern")]])) (mSeq (mFor (mIterA (mFldV 0 3 "ways")) (gN 2) (mApp 1 (mCall f_line_of [mK (.str "way"), mVar 2]))) (mSeq (mIf (mTest (mIsN true (mFldV 0 3 "first"))) (mApp 1 (mCall f_line_of [mK (.str "first"), mFldV 0 3 "first"])) (mNx)) (mSeq (mIf (mTest (mBin pNe (mFldV 0 3 "scope") (mTup [mK (.str "work")]))) (mApp 1 (mCall f_line_of [mK (.str "scope"), mFldV 0 3 "scope"])) (mNx)) (mSeq (mIf (mTest (mIsN true (mFldV 0 3 "turn"))) (mApp 1 (mCall f_line_of [mK (.str "turns"), mTup [mFldV 0 3 "turn"]])) (mNx)) (mRet (mCB pTuple [mVar 1]))))))
def f_write_term : List PV → Option RO := runP N_write_term.length m_write_term
theorem ok_write_term (T : Txt K mg cl fa fd dT11) : FnOk P w K mg base (L2N.CX P w) 2 (fa 30) (fd 30) ["term"] (spP K cl 1 f_write_term) :=
  fnP (k := 1) (m := m_write_term) T.F_write_term sc_write_term (fun cdv A outer s H E hr => by
    have hu := hu64 hr
    have tk : L2N.Takes (cxOf (L2N.CX P w) P w K mg base N_write_term "write_term" (defScope s_write_term) (fa 30) cdv A outer s H E) (fun c d _ H' => E c d H') := L2N.takes_of rfl rfl rfl rfl
    exact (sm_cons (sm_setO (i := 1) sc_write_term.nd rfl (by first | exact Or.inl rfl | exact Or.inr rfl) (fm_lst (am_cons (em_call tk (ok_line_of T) (hr.mono (by first | decide | omega)) T.g_line_of T.k_line_of T.b_line_of (am_cons (em_str) (am_cons (em_op br_add (em_tup (am_cons (em_fldV (c := 3) (pv 0) T.c3 T.n3_name) (am_nil))) (em_fldV (c := 3) (pv 0) T.c3 T.n3_pattern)) (am_nil)))) (am_nil))))
      (sm_cons (sm_for (passes_of rfl) rfl (im_any (em_fldV (c := 3) (pv 0) T.c3 T.n3_ways)) (gm_of (pg_name (i := 2) sc_write_term.nd rfl (by first | exact Or.inl rfl | exact Or.inr rfl)) (does_gN)) (sm_one (sm_app (pv 1) (em_call tk (ok_line_of T) (hr.mono (by first | decide | omega)) T.g_line_of T.k_line_of T.b_line_of (am_cons (em_str) (am_cons (em_v 2) (am_nil)))))))
      (sm_cons (sm_if (tm_notN (em_fldV (c := 3) (pv 0) T.c3 T.n3_first)) (sm_one (sm_app (pv 1) (em_call tk (ok_line_of T) (hr.mono (by first | decide | omega)) T.g_line_of T.k_line_of T.b_line_of (am_cons (em_str) (am_cons (em_fldV (c := 3) (pv 0) T.c3 T.n3_first) (am_nil)))))) (sm_nil))
      (sm_cons (sm_if (tm_cmp (br_ne hu) (em_fldV (c := 3) (pv 0) T.c3 T.n3_scope) (em_tup (am_cons (em_str) (am_nil))) (nomark _)) (sm_one (sm_app (pv 1) (em_call tk (ok_line_of T) (hr.mono (by first | decide | omega)) T.g_line_of T.k_line_of T.b_line_of (am_cons (em_str) (am_cons (em_fldV (c := 3) (pv 0) T.c3 T.n3_scope) (am_nil)))))) (sm_nil))
      (sm_cons (sm_if (tm_notN (em_fldV (c := 3) (pv 0) T.c3 T.n3_turn)) (sm_one (sm_app (pv 1) (em_call tk (ok_line_of T) (hr.mono (by first | decide | omega)) T.g_line_of T.k_line_of T.b_line_of (am_cons (em_str) (am_cons (em_tup (am_cons (em_fldV (c := 3) (pv 0) T.c3 T.n3_turn) (am_nil))) (am_nil)))))) (sm_nil))
      (sm_one (sm_ret (em_ct cr_tuple cs_tuple T.z_tuple (am_cons (em_v 1) (am_nil)))))))))))
def m_items_from : M Fl := mSeq (mSetO 5 (mLst [])) (mSeq (whileM (mOr (mTest (mBin pLt (mCBV pLen 5) (mVar 2))) (mAnd (mTest (mBin pLt (mCBV pLen 5) (mVar 3))) (mTest (mBin pLt (mBin pAdd (mVar 1) (mCBV pLen 5)) (mMethI 0 4 "many_words" f_Lines_many_words []))))) (mApp 5 (mMethI 0 4 "item_at" f_Lines_item_at [mBin pAdd (mVar 1) (mCBV pLen 5), mVar 4])) 200) (mSeq (mDrop (mMethI 0 4 "close_at" f_Lines_close_at [mBin pAdd (mVar 1) (mCBV pLen 5)])) (mRet (mCB pTuple [mVar 5]))))
def f_items_from : PV → List PV → Option (PV × RO) := runI N_items_from.length m_items_from
theorem ok_items_from (T : Txt K mg cl fa fd dT11) : FnOk P w K mg base (L2N.CX P w) 6 (fa 31) (fd 31) ["lines", "at", "least", "most", "notes"] (spI K cl 5 f_items_from) :=
  fnI (k := 5) (m := m_items_from) T.F_items_from sc_items_from (fun cdv A outer s H E hr => by
    have hu := hu64 hr
    have tk : L2N.Takes (cxOf (L2N.CX P w) P w K mg base N_items_from "items_from" (defScope s_items_from) (fa 31) cdv A outer s H E) (fun c d _ H' => E c d H') := L2N.takes_of rfl rfl rfl rfl
    exact (sm_cons (sm_setO (i := 5) sc_items_from.nd rfl (by first | exact Or.inl rfl | exact Or.inr rfl) (fm_lst (am_nil)))
      (sm_cons (sm_while 200 (passes_of rfl) (tm_w (wm_or (tm_cmp (br_lt hu) (em_cbV cr_lenA cs_len T.z_len (pv 5)) (em_v 2) (nomark _)) (wm_or1 (tm_w (wm_and (tm_cmp (br_lt hu) (em_cbV cr_lenA cs_len T.z_len (pv 5)) (em_v 3) (nomark _)) (wm_and1 (tm_cmp (br_lt hu) (em_op br_add (em_v 1) (em_cbV cr_lenA cs_len T.z_len (pv 5))) (em_methI0 (i := 0) (c := 4) tk T.c4 T.mm4_many_words (ok_Lines_many_words T) (hr.mono (by first | decide | omega)) T.b_Lines_many_words (pv 0)) (nomark _)))))))) (sm_one (sm_app (pv 5) (em_methI (i := 0) (c := 4) tk T.c4 T.mm4_item_at (ok_Lines_item_at T) (hr.mono (by first | decide | omega)) T.b_Lines_item_at (pv 0) (am_cons (em_op br_add (em_v 1) (em_cbV cr_lenA cs_len T.z_len (pv 5))) (am_cons (em_v 4) (am_nil)))))))
      (sm_cons (sm_expr (em_methI (i := 0) (c := 4) tk T.c4 T.mm4_close_at (ok_Lines_close_at T) (hr.mono (by first | decide | omega)) T.b_Lines_close_at (pv 0) (am_cons (em_op br_add (em_v 1) (em_cbV cr_lenA cs_len T.z_len (pv 5))) (am_nil))))
      (sm_one (sm_ret (em_ct cr_tuple cs_tuple T.z_tuple (am_cons (em_v 5) (am_nil)))))))))
def m_way_rows : M Fl := mSeq (mDrop (mMethI 0 4 "want_word" f_Lines_want_word [mK (.str "way")])) (mSeq (mSetO 1 (mLst [mCallI 0 f_items_from [mK (.int 1), mK (.int 0), mK (.int 6), mK (.bl true)]])) (mSeq (whileM (mAnd (mTest (mBin pLt (mCBV pLen 1) (mK (.int 3)))) (mTest (mBin pEq (mMethI 0 4 "first_word" f_Lines_first_word []) (mK (.str "way"))))) (mApp 1 (mCallI 0 f_items_from [mK (.int 1), mK (.int 0), mK (.int 6), mK (.bl true)])) 200) (mRet (mCB pTuple [mVar 1]))))
def f_way_rows : PV → List PV → Option (PV × RO) := runI N_way_rows.length m_way_rows
theorem ok_way_rows (T : Txt K mg cl fa fd dT11) : FnOk P w K mg base (L2N.CX P w) 7 (fa 32) (fd 32) ["lines"] (spI K cl 1 f_way_rows) :=
  fnI (k := 6) (m := m_way_rows) T.F_way_rows sc_way_rows (fun cdv A outer s H E hr => by
    have hu := hu64 hr
    have tk : L2N.Takes (cxOf (L2N.CX P w) P w K mg base N_way_rows "way_rows" (defScope s_way_rows) (fa 32) cdv A outer s H E) (fun c d _ H' => E c d H') := L2N.takes_of rfl rfl rfl rfl
    exact (sm_cons (sm_expr (em_methI (i := 0) (c := 4) tk T.c4 T.mm4_want_word (ok_Lines_want_word T) (hr.mono (by first | decide | omega)) T.b_Lines_want_word (pv 0) (am_cons (em_str) (am_nil))))
      (sm_cons (sm_setO (i := 1) sc_way_rows.nd rfl (by first | exact Or.inl rfl | exact Or.inr rfl) (fm_lst (am_cons (em_callI tk (ok_items_from T) (hr.mono (by decide)) T.g_items_from T.k_items_from T.b_items_from (pv 0) (am_cons (em_int) (am_cons (em_int) (am_cons (em_int) (am_cons (em_bl) (am_nil)))))) (am_nil))))
      (sm_cons (sm_while 200 (passes_of rfl) (tm_w (wm_and (tm_cmp (br_lt hu) (em_cbV cr_lenA cs_len T.z_len (pv 1)) (em_int) (nomark _)) (wm_and1 (tm_cmp (br_eq hu) (em_methI0 (i := 0) (c := 4) tk T.c4 T.mm4_first_word (ok_Lines_first_word T) (hr.mono (by first | decide | omega)) T.b_Lines_first_word (pv 0)) (em_str) (nomark _))))) (sm_one (sm_app (pv 1) (em_callI tk (ok_items_from T) (hr.mono (by decide)) T.g_items_from T.k_items_from T.b_items_from (pv 0) (am_cons (em_int) (am_cons (em_int) (am_cons (em_int) (am_cons (em_bl) (am_nil)))))))))
      (sm_one (sm_ret (em_ct cr_tuple cs_tuple T.z_tuple (am_cons (em_v 1) (am_nil)))))))))
def m_scope_row : M Fl := mSeq (mSet 3 (mMethI 0 4 "word_at" f_Lines_word_at [mVar 1])) (mSeq (mIf (mTest (mBin pHas (mVar 3) (mK (.tup [.str "in", .str "behind"])))) (mSeq (mSet 4 (mMethI 0 4 "name_at" f_Lines_name_at [mBin pAdd (mVar 1) (mK (.int 1))])) (mSeq (mDrop (mMethI 0 4 "close_at" f_Lines_close_at [mBin pAdd (mVar 1) (mK (.int 2))])) (mRet (mTup [mVar 3, mVar 4])))) (mNx)) (mSeq (mIf (mTest (mBin pHasNot (mVar 3) (mVar 2))) (mDrop (mMethI 0 4 "fail_at" f_Lines_fail_at [mVar 1])) (mNx)) (mSeq (mDrop (mMethI 0 4 "close_at" f_Lines_close_at [mBin pAdd (mVar 1) (mK (.int 1))])) (mRet (mTup [mVar 3])))))
def f_scope_row : PV → List PV → Option (PV × RO) := runI N_scope_row.length m_scope_row
theorem ok_scope_row (T : Txt K mg cl fa fd dT11) : FnOk P w K mg base (L2N.CX P w) 6 (fa 33) (fd 33) ["lines", "at", "plain"] (spI K cl 3 f_scope_row) :=
  fnI (k := 5) (m := m_scope_row) T.F_scope_row sc_scope_row (fun cdv A outer s H E hr => by
    have hu := hu64 hr
    have tk : L2N.Takes (cxOf (L2N.CX P w) P w K mg base N_scope_row "scope_row" (defScope s_scope_row) (fa 33) cdv A outer s H E) (fun c d _ H' => E c d H') := L2N.takes_of rfl rfl rfl rfl
    exact (sm_cons (sm_set (i := 3) sc_scope_row.nd rfl (by first | exact Or.inl rfl | exact Or.inr rfl) (em_methI (i := 0) (c := 4) tk T.c4 T.mm4_word_at (ok_Lines_word_at T) (hr.mono (by first | decide | omega)) T.b_Lines_word_at (pv 0) (am_cons (em_v 1) (am_nil))))
      (sm_cons (sm_if (tm_cmp (br_has hu) (em_v 3) (em_gtup (x := "SCOPES_OF_A_WORD") (us := ["in", "behind"]) T.gs_SCOPES_OF_A_WORD) rfl) (sm_cons (sm_set (i := 4) sc_scope_row.nd rfl (by first | exact Or.inl rfl | exact Or.inr rfl) (em_methI (i := 0) (c := 4) tk T.c4 T.mm4_name_at (ok_Lines_name_at T) (hr.mono (by first | decide | omega)) T.b_Lines_name_at (pv 0) (am_cons (em_op br_add (em_v 1) (em_int)) (am_nil))))
      (sm_cons (sm_expr (em_methI (i := 0) (c := 4) tk T.c4 T.mm4_close_at (ok_Lines_close_at T) (hr.mono (by first | decide | omega)) T.b_Lines_close_at (pv 0) (am_cons (em_op br_add (em_v 1) (em_int)) (am_nil))))
      (sm_one (sm_ret (em_tup (am_cons (em_v 3) (am_cons (em_v 4) (am_nil)))))))) (sm_nil))
      (sm_cons (sm_if (tm_cmp (br_hasNot hu) (em_v 3) (em_v 2) rfl) (sm_one (sm_expr (em_methI (i := 0) (c := 4) tk T.c4 T.mm4_fail_at (ok_Lines_fail_at T) (hr.mono (by first | decide | omega)) T.b_Lines_fail_at (pv 0) (am_cons (em_v 1) (am_nil))))) (sm_nil))
      (sm_cons (sm_expr (em_methI (i := 0) (c := 4) tk T.c4 T.mm4_close_at (ok_Lines_close_at T) (hr.mono (by first | decide | omega)) T.b_Lines_close_at (pv 0) (am_cons (em_op br_add (em_v 1) (em_int)) (am_nil))))
      (sm_one (sm_ret (em_tup (am_cons (em_v 3) (am_nil))))))))))
def m_end_line : M Fl := mSeq (mDrop (mMethI 0 4 "want_word" f_Lines_want_word [mK (.str "end")])) (mDrop (mMethI 0 4 "close_at" f_Lines_close_at [mK (.int 1)]))
def f_end_line : PV → List PV → Option (PV × RO) := runI N_end_line.length m_end_line
theorem ok_end_line (T : Txt K mg cl fa fd dT11) : FnOk P w K mg base (L2N.CX P w) 5 (fa 34) (fd 34) ["lines"] (spI K cl 1 f_end_line) :=
  fnI (k := 4) (m := m_end_line) T.F_end_line sc_end_line (fun cdv A outer s H E hr => by
    have hu := hu64 hr
    have tk : L2N.Takes (cxOf (L2N.CX P w) P w K mg base N_end_line "end_line" (defScope s_end_line) (fa 34) cdv A outer s H E) (fun c d _ H' => E c d H') := L2N.takes_of rfl rfl rfl rfl
    exact (sm_cons (sm_expr (em_methI (i := 0) (c := 4) tk T.c4 T.mm4_want_word (ok_Lines_want_word T) (hr.mono (by first | decide | omega)) T.b_Lines_want_word (pv 0) (am_cons (em_str) (am_nil))))
      (sm_one (sm_expr (em_methI (i := 0) (c := 4) tk T.c4 T.mm4_close_at (ok_Lines_close_at T) (hr.mono (by first | decide | omega)) T.b_Lines_close_at (pv 0) (am_cons (em_int) (am_nil)))))))
def m_term_row : M Fl := mSeq (mDrop (mMethI 0 4 "want_word" f_Lines_want_word [mK (.str "term")])) (mSeq (mSet 1 (mMethI 0 4 "name_at" f_Lines_name_at [mK (.int 1)])) (mSeq (mSet 2 (mCallI 0 f_items_from [mK (.int 2), mK (.int 1), mK (.int 3), mK (.bl false)])) (mSeq (mSet 3 (mCallI 0 f_way_rows [])) (mSeq (mSet 4 (mK .non)) (mSeq (mIf (mTest (mBin pEq (mMethI 0 4 "first_word" f_Lines_first_word []) (mK (.str "first")))) (mSet 4 (mCallI 0 f_items_from [mK (.int 1), mK (.int 0), mK (.int 6), mK (.bl true)])) (mNx)) (mSeq (mSet 5 (mTup [mK (.str "work")])) (mSeq (mIf (mTest (mBin pEq (mMethI 0 4 "first_word" f_Lines_first_word []) (mK (.str "scope")))) (mSet 5 (mCallI 0 f_scope_row [mK (.int 1), mTup [mK (.str "plain"), mK (.str "quoted")]])) (mNx)) (mSeq (mSet 6 (mK .non)) (mSeq (mIf (mTest (mBin pEq (mMethI 0 4 "first_word" f_Lines_first_word []) (mK (.str "turns")))) (mSeq (mSet 6 (mMethI 0 4 "name_at" f_Lines_name_at [mK (.int 1)])) (mDrop (mMethI 0 4 "close_at" f_Lines_close_at [mK (.int 2)]))) (mNx)) (mRet (mTup [mVar 1, mVar 2, mVar 3, mVar 5, mVar 4, mVar 6])))))))))))
def f_term_row : PV → List PV → Option (PV × RO) := runI N_term_row.length m_term_row
theorem ok_term_row (T : Txt K mg cl fa fd dT11) : FnOk P w K mg base (L2N.CX P w) 8 (fa 35) (fd 35) ["lines"] (spI K cl 1 f_term_row) :=
  fnI (k := 7) (m := m_term_row) T.F_term_row sc_term_row (fun cdv A outer s H E hr => by
    have hu := hu64 hr
    have tk : L2N.Takes (cxOf (L2N.CX P w) P w K mg base N_term_row "term_row" (defScope s_term_row) (fa 35) cdv A outer s H E) (fun c d _ H' => E c d H') := L2N.takes_of rfl rfl rfl rfl
    exact (sm_cons (sm_expr (em_methI (i := 0) (c := 4) tk T.c4 T.mm4_want_word (ok_Lines_want_word T) (hr.mono (by first | decide | omega)) T.b_Lines_want_word (pv 0) (am_cons (em_str) (am_nil))))
      (sm_cons (sm_set (i := 1) sc_term_row.nd rfl (by first | exact Or.inl rfl | exact Or.inr rfl) (em_methI (i := 0) (c := 4) tk T.c4 T.mm4_name_at (ok_Lines_name_at T) (hr.mono (by first | decide | omega)) T.b_Lines_name_at (pv 0) (am_cons (em_int) (am_nil))))
      (sm_cons (sm_set (i := 2) sc_term_row.nd rfl (by first | exact Or.inl rfl | exact Or.inr rfl) (em_callI tk (ok_items_from T) (hr.mono (by decide)) T.g_items_from T.k_items_from T.b_items_from (pv 0) (am_cons (em_int) (am_cons (em_int) (am_cons (em_int) (am_cons (em_bl) (am_nil)))))))
      (sm_cons (sm_set (i := 3) sc_term_row.nd rfl (by first | exact Or.inl rfl | exact Or.inr rfl) (em_callI tk (ok_way_rows T) (hr.mono (by decide)) T.g_way_rows T.k_way_rows T.b_way_rows (pv 0) (am_nil)))
      (sm_cons (sm_set (i := 4) sc_term_row.nd rfl (by first | exact Or.inl rfl | exact Or.inr rfl) (em_non))
      (sm_cons (sm_if (tm_cmp (br_eq hu) (em_methI0 (i := 0) (c := 4) tk T.c4 T.mm4_first_word (ok_Lines_first_word T) (hr.mono (by first | decide | omega)) T.b_Lines_first_word (pv 0)) (em_str) (nomark _)) (sm_one (sm_set (i := 4) sc_term_row.nd rfl (by first | exact Or.inl rfl | exact Or.inr rfl) (em_callI tk (ok_items_from T) (hr.mono (by decide)) T.g_items_from T.k_items_from T.b_items_from (pv 0) (am_cons (em_int) (am_cons (em_int) (am_cons (em_int) (am_cons (em_bl) (am_nil)))))))) (sm_nil))
      (sm_cons (sm_set (i := 5) sc_term_row.nd rfl (by first | exact Or.inl rfl | exact Or.inr rfl) (em_tup (am_cons (em_str) (am_nil))))
      (sm_cons (sm_if (tm_cmp (br_eq hu) (em_methI0 (i := 0) (c := 4) tk T.c4 T.mm4_first_word (ok_Lines_first_word T) (hr.mono (by first | decide | omega)) T.b_Lines_first_word (pv 0)) (em_str) (nomark _)) (sm_one (sm_set (i := 5) sc_term_row.nd rfl (by first | exact Or.inl rfl | exact Or.inr rfl) (em_callI tk (ok_scope_row T) (hr.mono (by decide)) T.g_scope_row T.k_scope_row T.b_scope_row (pv 0) (am_cons (em_int) (am_cons (em_tup (am_cons (em_str) (am_cons (em_str) (am_nil)))) (am_nil)))))) (sm_nil))
      (sm_cons (sm_set (i := 6) sc_term_row.nd rfl (by first | exact Or.inl rfl | exact Or.inr rfl) (em_non))
      (sm_cons (sm_if (tm_cmp (br_eq hu) (em_methI0 (i := 0) (c := 4) tk T.c4 T.mm4_first_word (ok_Lines_first_word T) (hr.mono (by first | decide | omega)) T.b_Lines_first_word (pv 0)) (em_str) (nomark _)) (sm_cons (sm_set (i := 6) sc_term_row.nd rfl (by first | exact Or.inl rfl | exact Or.inr rfl) (em_methI (i := 0) (c := 4) tk T.c4 T.mm4_name_at (ok_Lines_name_at T) (hr.mono (by first | decide | omega)) T.b_Lines_name_at (pv 0) (am_cons (em_int) (am_nil))))
      (sm_one (sm_expr (em_methI (i := 0) (c := 4) tk T.c4 T.mm4_close_at (ok_Lines_close_at T) (hr.mono (by first | decide | omega)) T.b_Lines_close_at (pv 0) (am_cons (em_int) (am_nil)))))) (sm_nil))
      (sm_one (sm_ret (em_tup (am_cons (em_v 1) (am_cons (em_v 2) (am_cons (em_v 3) (am_cons (em_v 5) (am_cons (em_v 4) (am_cons (em_v 6) (am_nil)))))))))))))))))))))
def m_made_term : M Fl := mSeq (mAsg (mVar 0) (gT [gN 1, gN 2, gN 3, gN 4, gN 5, gN 6])) (mRet (mMake 3 f_Term___init__ [mVar 1, mVar 2, mVar 3, mVar 4, mVar 5, mVar 6]))
def f_made_term : List PV → Option RO := runP N_made_term.length m_made_term
theorem ok_made_term (T : Txt K mg cl fa fd dT11) : FnOk P w K mg base (L2N.CX P w) 12 (fa 36) (fd 36) ["row"] (spP K cl 1 f_made_term) :=
  fnP (k := 11) (m := m_made_term) T.F_made_term sc_made_term (fun cdv A outer s H E hr => by
    have hu := hu64 hr
    have tk : L2N.Takes (cxOf (L2N.CX P w) P w K mg base N_made_term "made_term" (defScope s_made_term) (fa 36) cdv A outer s H E) (fun c d _ H' => E c d H') := L2N.takes_of rfl rfl rfl rfl
    exact (sm_cons (sm_asg (em_v 0) (gm_of (pg_tup rfl (pgs_cons (pg_name (i := 1) sc_made_term.nd rfl (by first | exact Or.inl rfl | exact Or.inr rfl)) (pgs_cons (pg_name (i := 2) sc_made_term.nd rfl (by first | exact Or.inl rfl | exact Or.inr rfl)) (pgs_cons (pg_name (i := 3) sc_made_term.nd rfl (by first | exact Or.inl rfl | exact Or.inr rfl)) (pgs_cons (pg_name (i := 4) sc_made_term.nd rfl (by first | exact Or.inl rfl | exact Or.inr rfl)) (pgs_cons (pg_name (i := 5) sc_made_term.nd rfl (by first | exact Or.inl rfl | exact Or.inr rfl)) (pgs_cons (pg_name (i := 6) sc_made_term.nd rfl (by first | exact Or.inl rfl | exact Or.inr rfl)) (pgs_nil)))))))) (does_gT (does_gCons does_gN (does_gCons does_gN (does_gCons does_gN (does_gCons does_gN (does_gCons does_gN (does_gCons does_gN (does_gNil))))))) rfl)))
      (sm_one (sm_ret (em_makeK (c := 3) (ms := [mVar 1, mVar 2, mVar 3]) (mk := [mVar 4, mVar 5, mVar 6]) tk T.m3 (ok_Term___init__ T) (hr.mono (by first | decide | omega)) T.g_Term T.kb_Term___init__ (am_cons (em_v 1) (am_cons (em_v 2) (am_cons (em_v 3) (am_nil)))) (km_cons (em_v 4) (km_cons (em_v 5) (km_cons (em_v 6) (km_nil)))))))))
def m_entry_lines : M Fl := mSeq (mSet 1 (mIxV 0 (mK (.int 0)))) (mSeq (mIf (mTest (mBin pEq (mVar 1) (mK (.str "add")))) (mRet (mBin pAdd (mBin pAdd (mTup [mK (.str "add")]) (mCall f_write_term [mIxV 0 (mK (.int 1))])) (mTup [mK (.str "end")]))) (mNx)) (mSeq (mIf (mTest (mBin pEq (mVar 1) (mK (.str "ways")))) (mRet (mBin pAdd (mBin pAdd (mTup [mCall f_line_of [mK (.str "ways"), mTup [mIxV 0 (mK (.int 1))]]]) (mCB pTuple [mLc [3] (mIterA (mIxV 0 (mK (.int 2)))) (gN 3) mYes (mCall f_line_of [mK (.str "way"), mVar 3])])) (mTup [mK (.str "end")]))) (mNx)) (mSeq (mIf (mTest (mBin pEq (mVar 1) (mK (.str "first")))) (mSeq (mSet 2 (mIfE (mTest (mIsN false (mIxV 0 (mK (.int 2))))) (mTup []) (mTup [mCall f_line_of [mK (.str "way"), mIxV 0 (mK (.int 2))]]))) (mRet (mBin pAdd (mBin pAdd (mTup [mCall f_line_of [mK (.str "first"), mTup [mIxV 0 (mK (.int 1))]]]) (mVar 2)) (mTup [mK (.str "end")])))) (mNx)) (mSeq (mIf (mTest (mBin pEq (mVar 1) (mK (.str "scope")))) (mRet (mTup [mCall f_line_of [mK (.str "scope"), mBin pAdd (mTup [mIxV 0 (mK (.int 1))]) (mIxV 0 (mK (.int 2)))]])) (mNx)) (mRet (mTup [mCall f_line_of [mVar 1, mSl (mVar 0) (mBd (mK (.int 1))) (mNoB)]]))))))
def f_entry_lines : List PV → Option RO := runP N_entry_lines.length m_entry_lines
theorem ok_entry_lines (T : Txt K mg cl fa fd dT11) : FnOk P w K mg base (L2N.CX P w) 3 (fa 37) (fd 37) ["change"] (spP K cl 1 f_entry_lines) :=
  fnP (k := 2) (m := m_entry_lines) T.F_entry_lines sc_entry_lines (fun cdv A outer s H E hr => by
    have hu := hu64 hr
    have tk : L2N.Takes (cxOf (L2N.CX P w) P w K mg base N_entry_lines "entry_lines" (defScope s_entry_lines) (fa 37) cdv A outer s H E) (fun c d _ H' => E c d H') := L2N.takes_of rfl rfl rfl rfl
    exact (sm_cons (sm_set (i := 1) sc_entry_lines.nd rfl (by first | exact Or.inl rfl | exact Or.inr rfl) (em_ixV hu (pv 0) (em_int)))
      (sm_cons (sm_if (tm_cmp (br_eq hu) (em_v 1) (em_str) (nomark _)) (sm_one (sm_ret (em_op br_add (em_op br_add (em_tup (am_cons (em_str) (am_nil))) (em_call tk (ok_write_term T) (hr.mono (by first | decide | omega)) T.g_write_term T.k_write_term T.b_write_term (am_cons (em_ixV hu (pv 0) (em_int)) (am_nil)))) (em_tup (am_cons (em_str) (am_nil)))))) (sm_nil))
      (sm_cons (sm_if (tm_cmp (br_eq hu) (em_v 1) (em_str) (nomark _)) (sm_one (sm_ret (em_op br_add (em_op br_add (em_tup (am_cons (em_call tk (ok_line_of T) (hr.mono (by first | decide | omega)) T.g_line_of T.k_line_of T.b_line_of (am_cons (em_str) (am_cons (em_tup (am_cons (em_ixV hu (pv 0) (em_int)) (am_nil))) (am_nil)))) (am_nil))) (em_ct cr_tuple cs_tuple T.z_tuple (am_cons (LcM.em (LcM.mk (own := [("way", 3)]) (im_any (em_ixV hu (pv 0) (em_int))) (blkOk_by (own := [("way", 3)]) (N := N_entry_lines) (sc := defScope s_entry_lines) (by decide +kernel)) (blk_tg (fun _ _ _ _ _ => pg_name (i := 3) sc_entry_lines.nd rfl (by first | exact Or.inl rfl | exact Or.inr rfl)) (does_gN) (gin_N (by decide))) (blk_ts fun _ _ _ _ _ => ts_nil) (blk_em fun _ _ _ _ _ => em_call takes_W0 (ok_line_of T) (hr.mono (by first | decide | omega)) T.g_line_of T.k_line_of T.b_line_of (am_cons (em_str) (am_cons (em_v 3) (am_nil))))) rfl sc_entry_lines.nd) (am_nil)))) (em_tup (am_cons (em_str) (am_nil)))))) (sm_nil))
      (sm_cons (sm_if (tm_cmp (br_eq hu) (em_v 1) (em_str) (nomark _)) (sm_cons (sm_set (i := 2) sc_entry_lines.nd rfl (by first | exact Or.inl rfl | exact Or.inr rfl) (em_ife (tm_isN (em_ixV hu (pv 0) (em_int))) (em_tup (am_nil)) (em_tup (am_cons (em_call tk (ok_line_of T) (hr.mono (by first | decide | omega)) T.g_line_of T.k_line_of T.b_line_of (am_cons (em_str) (am_cons (em_ixV hu (pv 0) (em_int)) (am_nil)))) (am_nil)))))
      (sm_one (sm_ret (em_op br_add (em_op br_add (em_tup (am_cons (em_call tk (ok_line_of T) (hr.mono (by first | decide | omega)) T.g_line_of T.k_line_of T.b_line_of (am_cons (em_str) (am_cons (em_tup (am_cons (em_ixV hu (pv 0) (em_int)) (am_nil))) (am_nil)))) (am_nil))) (em_v 2)) (em_tup (am_cons (em_str) (am_nil))))))) (sm_nil))
      (sm_cons (sm_if (tm_cmp (br_eq hu) (em_v 1) (em_str) (nomark _)) (sm_one (sm_ret (em_tup (am_cons (em_call tk (ok_line_of T) (hr.mono (by first | decide | omega)) T.g_line_of T.k_line_of T.b_line_of (am_cons (em_str) (am_cons (em_op br_add (em_tup (am_cons (em_ixV hu (pv 0) (em_int)) (am_nil))) (em_ixV hu (pv 0) (em_int))) (am_nil)))) (am_nil))))) (sm_nil))
      (sm_one (sm_ret (em_tup (am_cons (em_call tk (ok_line_of T) (hr.mono (by first | decide | omega)) T.g_line_of T.k_line_of T.b_line_of (am_cons (em_v 1) (am_cons (em_sl (em_v 0) (om_some (em_int)) (om_none)) (am_nil)))) (am_nil)))))))))))
def m_write_log : M Fl := mSeq (mSetO 1 (mLst [])) (mSeq (mFor (mIterA (mCall f_deep [mVar 0])) (gN 2) (mExt 1 (mCB pList [mCall f_entry_lines [mVar 2]]))) (mRet (mCB pTuple [mVar 1])))
def f_write_log : List PV → Option RO := runP N_write_log.length m_write_log
theorem ok_write_log (T : Txt K mg cl fa fd dT11) : FnOk P w K mg base (L2N.CX P w) 9 (fa 38) (fd 38) ["changes"] (spP K cl 1 f_write_log) :=
  fnP (k := 8) (m := m_write_log) T.F_write_log sc_write_log (fun cdv A outer s H E hr => by
    have hu := hu64 hr
    have tk : L2N.Takes (cxOf (L2N.CX P w) P w K mg base N_write_log "write_log" (defScope s_write_log) (fa 38) cdv A outer s H E) (fun c d _ H' => E c d H') := L2N.takes_of rfl rfl rfl rfl
    exact (sm_cons (sm_setO (i := 1) sc_write_log.nd rfl (by first | exact Or.inl rfl | exact Or.inr rfl) (fm_lst (am_nil)))
      (sm_cons (sm_for (passes_of rfl) rfl (im_any (em_call tk (ok_deep T) (hr.mono (by first | decide | omega)) T.g_deep T.k_deep T.b_deep (am_cons (em_v 0) (am_nil)))) (gm_of (pg_name (i := 2) sc_write_log.nd rfl (by first | exact Or.inl rfl | exact Or.inr rfl)) (does_gN)) (sm_one (sm_ext (pv 1) (em_fm (fm_ct cr_list cs_list T.z_list (am_cons (em_call tk (ok_entry_lines T) (hr.mono (by first | decide | omega)) T.g_entry_lines T.k_entry_lines T.b_entry_lines (am_cons (em_v 2) (am_nil))) (am_nil)))))))
      (sm_one (sm_ret (em_ct cr_tuple cs_tuple T.z_tuple (am_cons (em_v 1) (am_nil))))))))
def m_name_line : M Fl := mSeq (mSet 1 (mMethI 0 4 "name_at" f_Lines_name_at [mK (.int 1)])) (mSeq (mDrop (mMethI 0 4 "close_at" f_Lines_close_at [mK (.int 2)])) (mRet (mVar 1)))
def f_name_line : PV → List PV → Option (PV × RO) := runI N_name_line.length m_name_line
theorem ok_name_line (T : Txt K mg cl fa fd dT11) : FnOk P w K mg base (L2N.CX P w) 6 (fa 39) (fd 39) ["lines"] (spI K cl 1 f_name_line) :=
  fnI (k := 5) (m := m_name_line) T.F_name_line sc_name_line (fun cdv A outer s H E hr => by
    have hu := hu64 hr
    have tk : L2N.Takes (cxOf (L2N.CX P w) P w K mg base N_name_line "name_line" (defScope s_name_line) (fa 39) cdv A outer s H E) (fun c d _ H' => E c d H') := L2N.takes_of rfl rfl rfl rfl
    exact (sm_cons (sm_set (i := 1) sc_name_line.nd rfl (by first | exact Or.inl rfl | exact Or.inr rfl) (em_methI (i := 0) (c := 4) tk T.c4 T.mm4_name_at (ok_Lines_name_at T) (hr.mono (by first | decide | omega)) T.b_Lines_name_at (pv 0) (am_cons (em_int) (am_nil))))
      (sm_cons (sm_expr (em_methI (i := 0) (c := 4) tk T.c4 T.mm4_close_at (ok_Lines_close_at T) (hr.mono (by first | decide | omega)) T.b_Lines_close_at (pv 0) (am_cons (em_int) (am_nil))))
      (sm_one (sm_ret (em_v 1))))))
def m_added_row : M Fl := mSeq (mDrop (mMethI 0 4 "close_at" f_Lines_close_at [mK (.int 1)])) (mSeq (mSet 1 (mCallI 0 f_term_row [])) (mSeq (mDrop (mCallI 0 f_end_line [])) (mRet (mVar 1))))
def f_added_row : PV → List PV → Option (PV × RO) := runI N_added_row.length m_added_row
theorem ok_added_row (T : Txt K mg cl fa fd dT11) : FnOk P w K mg base (L2N.CX P w) 9 (fa 40) (fd 40) ["lines"] (spI K cl 1 f_added_row) :=
  fnI (k := 8) (m := m_added_row) T.F_added_row sc_added_row (fun cdv A outer s H E hr => by
    have hu := hu64 hr
    have tk : L2N.Takes (cxOf (L2N.CX P w) P w K mg base N_added_row "added_row" (defScope s_added_row) (fa 40) cdv A outer s H E) (fun c d _ H' => E c d H') := L2N.takes_of rfl rfl rfl rfl
    exact (sm_cons (sm_expr (em_methI (i := 0) (c := 4) tk T.c4 T.mm4_close_at (ok_Lines_close_at T) (hr.mono (by first | decide | omega)) T.b_Lines_close_at (pv 0) (am_cons (em_int) (am_nil))))
      (sm_cons (sm_set (i := 1) sc_added_row.nd rfl (by first | exact Or.inl rfl | exact Or.inr rfl) (em_callI tk (ok_term_row T) (hr.mono (by decide)) T.g_term_row T.k_term_row T.b_term_row (pv 0) (am_nil)))
      (sm_cons (sm_expr (em_callI tk (ok_end_line T) (hr.mono (by decide)) T.g_end_line T.k_end_line T.b_end_line (pv 0) (am_nil)))
      (sm_one (sm_ret (em_v 1)))))))
def m_ways_of_entry : M Fl := mSeq (mSet 1 (mCallI 0 f_way_rows [])) (mSeq (mDrop (mCallI 0 f_end_line [])) (mRet (mVar 1)))
def f_ways_of_entry : PV → List PV → Option (PV × RO) := runI N_ways_of_entry.length m_ways_of_entry
theorem ok_ways_of_entry (T : Txt K mg cl fa fd dT11) : FnOk P w K mg base (L2N.CX P w) 8 (fa 41) (fd 41) ["lines"] (spI K cl 1 f_ways_of_entry) :=
  fnI (k := 7) (m := m_ways_of_entry) T.F_ways_of_entry sc_ways_of_entry (fun cdv A outer s H E hr => by
    have hu := hu64 hr
    have tk : L2N.Takes (cxOf (L2N.CX P w) P w K mg base N_ways_of_entry "ways_of_entry" (defScope s_ways_of_entry) (fa 41) cdv A outer s H E) (fun c d _ H' => E c d H') := L2N.takes_of rfl rfl rfl rfl
    exact (sm_cons (sm_set (i := 1) sc_ways_of_entry.nd rfl (by first | exact Or.inl rfl | exact Or.inr rfl) (em_callI tk (ok_way_rows T) (hr.mono (by decide)) T.g_way_rows T.k_way_rows T.b_way_rows (pv 0) (am_nil)))
      (sm_cons (sm_expr (em_callI tk (ok_end_line T) (hr.mono (by decide)) T.g_end_line T.k_end_line T.b_end_line (pv 0) (am_nil)))
      (sm_one (sm_ret (em_v 1))))))
def m_first_of_entry : M Fl := mSeq (mSet 1 (mK .non)) (mSeq (mIf (mTest (mBin pEq (mMethI 0 4 "first_word" f_Lines_first_word []) (mK (.str "way")))) (mSet 1 (mCallI 0 f_items_from [mK (.int 1), mK (.int 0), mK (.int 6), mK (.bl true)])) (mNx)) (mSeq (mDrop (mCallI 0 f_end_line [])) (mRet (mVar 1))))
def f_first_of_entry : PV → List PV → Option (PV × RO) := runI N_first_of_entry.length m_first_of_entry
theorem ok_first_of_entry (T : Txt K mg cl fa fd dT11) : FnOk P w K mg base (L2N.CX P w) 7 (fa 42) (fd 42) ["lines"] (spI K cl 1 f_first_of_entry) :=
  fnI (k := 6) (m := m_first_of_entry) T.F_first_of_entry sc_first_of_entry (fun cdv A outer s H E hr => by
    have hu := hu64 hr
    have tk : L2N.Takes (cxOf (L2N.CX P w) P w K mg base N_first_of_entry "first_of_entry" (defScope s_first_of_entry) (fa 42) cdv A outer s H E) (fun c d _ H' => E c d H') := L2N.takes_of rfl rfl rfl rfl
    exact (sm_cons (sm_set (i := 1) sc_first_of_entry.nd rfl (by first | exact Or.inl rfl | exact Or.inr rfl) (em_non))
      (sm_cons (sm_if (tm_cmp (br_eq hu) (em_methI0 (i := 0) (c := 4) tk T.c4 T.mm4_first_word (ok_Lines_first_word T) (hr.mono (by first | decide | omega)) T.b_Lines_first_word (pv 0)) (em_str) (nomark _)) (sm_one (sm_set (i := 1) sc_first_of_entry.nd rfl (by first | exact Or.inl rfl | exact Or.inr rfl) (em_callI tk (ok_items_from T) (hr.mono (by decide)) T.g_items_from T.k_items_from T.b_items_from (pv 0) (am_cons (em_int) (am_cons (em_int) (am_cons (em_int) (am_cons (em_bl) (am_nil)))))))) (sm_nil))
      (sm_cons (sm_expr (em_callI tk (ok_end_line T) (hr.mono (by decide)) T.g_end_line T.k_end_line T.b_end_line (pv 0) (am_nil)))
      (sm_one (sm_ret (em_v 1)))))))
def m_entry_row : M Fl := mSeq (mMatch (mMethI 0 4 "first_word" f_Lines_first_word []) [(["add"], none, mRet (mTup [mK (.str "add"), mCallI 0 f_added_row []])), (["drop", "rise"], some 1, mRet (mTup [mVar 1, mCallI 0 f_name_line []])), (["ways"], none, mRet (mTup [mK (.str "ways"), mCallI 0 f_name_line [], mCallI 0 f_ways_of_entry []])), (["first"], none, mRet (mTup [mK (.str "first"), mCallI 0 f_name_line [], mCallI 0 f_first_of_entry []])), (["scope"], none, mRet (mTup [mK (.str "scope"), mMethI 0 4 "name_at" f_Lines_name_at [mK (.int 1)], mCallI 0 f_scope_row [mK (.int 2), mK (.tup [.str "work", .str "plain", .str "quoted"])]])), (["say"], none, mSeq (mSet 2 (mTup [mK (.str "say"), mMethI 0 4 "name_at" f_Lines_name_at [mK (.int 1)], mMethI 0 4 "name_at" f_Lines_name_at [mK (.int 2)]])) (mSeq (mDrop (mMethI 0 4 "close_at" f_Lines_close_at [mK (.int 3)])) (mRet (mVar 2))))]) (mRaise 2 [("line", 0), ("word", 1)] [mMethI 0 4 "line_number" f_Lines_line_number [], mK (.int 0)])
def f_entry_row : PV → List PV → Option (PV × RO) := runI N_entry_row.length m_entry_row
theorem ok_entry_row (T : Txt K mg cl fa fd dT11) : FnOk P w K mg base (L2N.CX P w) 10 (fa 43) (fd 43) ["lines"] (spI K cl 1 f_entry_row) :=
  fnI (k := 9) (m := m_entry_row) T.F_entry_row sc_entry_row (fun cdv A outer s H E hr => by
    have hu := hu64 hr
    have tk : L2N.Takes (cxOf (L2N.CX P w) P w K mg base N_entry_row "entry_row" (defScope s_entry_row) (fa 43) cdv A outer s H E) (fun c d _ H' => E c d H') := L2N.takes_of rfl rfl rfl rfl
    exact (sm_cons (sm_match (em_methI0 (i := 0) (c := 4) tk T.c4 T.mm4_first_word (ok_Lines_first_word T) (hr.mono (by first | decide | omega)) T.b_Lines_first_word (pv 0)) (cm_cons (mp_str) (sm_one (sm_ret (em_tup (am_cons (em_str) (am_cons (em_callI tk (ok_added_row T) (hr.mono (by decide)) T.g_added_row T.k_added_row T.b_added_row (pv 0) (am_nil)) (am_nil))))))
      (cm_as (i := 1) sc_entry_row.nd rfl (by first | exact Or.inl rfl | exact Or.inr rfl) (mp_as (mp_or (mf_cons (mp_str) (mf_cons (mp_str) (mf_nil))))) (sm_one (sm_ret (em_tup (am_cons (em_v 1) (am_cons (em_callI tk (ok_name_line T) (hr.mono (by decide)) T.g_name_line T.k_name_line T.b_name_line (pv 0) (am_nil)) (am_nil))))))
      (cm_cons (mp_str) (sm_one (sm_ret (em_tup (am_cons (em_str) (am_cons (em_callI tk (ok_name_line T) (hr.mono (by decide)) T.g_name_line T.k_name_line T.b_name_line (pv 0) (am_nil)) (am_cons (em_callI tk (ok_ways_of_entry T) (hr.mono (by decide)) T.g_ways_of_entry T.k_ways_of_entry T.b_ways_of_entry (pv 0) (am_nil)) (am_nil)))))))
      (cm_cons (mp_str) (sm_one (sm_ret (em_tup (am_cons (em_str) (am_cons (em_callI tk (ok_name_line T) (hr.mono (by decide)) T.g_name_line T.k_name_line T.b_name_line (pv 0) (am_nil)) (am_cons (em_callI tk (ok_first_of_entry T) (hr.mono (by decide)) T.g_first_of_entry T.k_first_of_entry T.b_first_of_entry (pv 0) (am_nil)) (am_nil)))))))
      (cm_cons (mp_str) (sm_one (sm_ret (em_tup (am_cons (em_str) (am_cons (em_methI (i := 0) (c := 4) tk T.c4 T.mm4_name_at (ok_Lines_name_at T) (hr.mono (by first | decide | omega)) T.b_Lines_name_at (pv 0) (am_cons (em_int) (am_nil))) (am_cons (em_callI tk (ok_scope_row T) (hr.mono (by decide)) T.g_scope_row T.k_scope_row T.b_scope_row (pv 0) (am_cons (em_int) (am_cons (em_gtup (x := "PLAIN_SCOPES") (us := ["work", "plain", "quoted"]) T.gs_PLAIN_SCOPES) (am_nil)))) (am_nil)))))))
      (cm_cons (mp_str) (sm_cons (sm_set (i := 2) sc_entry_row.nd rfl (by first | exact Or.inl rfl | exact Or.inr rfl) (em_tup (am_cons (em_str) (am_cons (em_methI (i := 0) (c := 4) tk T.c4 T.mm4_name_at (ok_Lines_name_at T) (hr.mono (by first | decide | omega)) T.b_Lines_name_at (pv 0) (am_cons (em_int) (am_nil))) (am_cons (em_methI (i := 0) (c := 4) tk T.c4 T.mm4_name_at (ok_Lines_name_at T) (hr.mono (by first | decide | omega)) T.b_Lines_name_at (pv 0) (am_cons (em_int) (am_nil))) (am_nil))))))
      (sm_cons (sm_expr (em_methI (i := 0) (c := 4) tk T.c4 T.mm4_close_at (ok_Lines_close_at T) (hr.mono (by first | decide | omega)) T.b_Lines_close_at (pv 0) (am_cons (em_int) (am_nil))))
      (sm_one (sm_ret (em_v 2)))))
      (cm_nil))))))))
      (sm_one (sm_raise (c := 2) (fl := [("line", 0), ("word", 1)]) rfl tk T.x2 T.i2 T.t2 (ok_BadLine___init__ T) (hr.mono (by first | decide | omega)) T.b_BadLine___init__ T.g_BadLine (am_cons (em_methI0 (i := 0) (c := 4) tk T.c4 T.mm4_line_number (ok_Lines_line_number T) (hr.mono (by first | decide | omega)) T.b_Lines_line_number (pv 0)) (am_cons (em_int) (am_nil)))))))
def m_made_change : M Fl := mSeq (mIf (mTest (mBin pEq (mIxV 0 (mK (.int 0))) (mK (.str "add")))) (mRet (mTup [mK (.str "add"), mCall f_made_term [mIxV 0 (mK (.int 1))]])) (mNx)) (mRet (mVar 0))
def f_made_change : List PV → Option RO := runP N_made_change.length m_made_change
theorem ok_made_change (T : Txt K mg cl fa fd dT11) : FnOk P w K mg base (L2N.CX P w) 13 (fa 44) (fd 44) ["row"] (spP K cl 1 f_made_change) :=
  fnP (k := 12) (m := m_made_change) T.F_made_change sc_made_change (fun cdv A outer s H E hr => by
    have hu := hu64 hr
    have tk : L2N.Takes (cxOf (L2N.CX P w) P w K mg base N_made_change "made_change" (defScope s_made_change) (fa 44) cdv A outer s H E) (fun c d _ H' => E c d H') := L2N.takes_of rfl rfl rfl rfl
    exact (sm_cons (sm_if (tm_cmp (br_eq hu) (em_ixV hu (pv 0) (em_int)) (em_str) (nomark _)) (sm_one (sm_ret (em_tup (am_cons (em_str) (am_cons (em_call tk (ok_made_term T) (hr.mono (by first | decide | omega)) T.g_made_term T.k_made_term T.b_made_term (am_cons (em_ixV hu (pv 0) (em_int)) (am_nil))) (am_nil)))))) (sm_nil))
      (sm_one (sm_ret (em_v 0)))))
def m_read_log : M Fl := mSeq (mSetO 1 (mMake 4 f_Lines___init__ [mVar 0])) (mSeq (mSetO 2 (mLst [])) (mSeq (whileM (mTest (mIsN true (mMethI 1 4 "first_word" f_Lines_first_word []))) (mApp 2 (mCallI 1 f_entry_row [])) 200) (mRet (mCB pTuple [mLc [3] (mIterA (mVar 2)) (gN 3) mYes (mCall f_made_change [mVar 3])]))))
def f_read_log : List PV → Option RO := runP N_read_log.length m_read_log
theorem ok_read_log (T : Txt K mg cl fa fd dT11) : FnOk P w K mg base (L2N.CX P w) 14 (fa 45) (fd 45) ["lines"] (spP K cl 1 f_read_log) :=
  fnP (k := 13) (m := m_read_log) T.F_read_log sc_read_log (fun cdv A outer s H E hr => by
    have hu := hu64 hr
    have tk : L2N.Takes (cxOf (L2N.CX P w) P w K mg base N_read_log "read_log" (defScope s_read_log) (fa 45) cdv A outer s H E) (fun c d _ H' => E c d H') := L2N.takes_of rfl rfl rfl rfl
    exact (sm_cons (sm_setO (i := 1) sc_read_log.nd rfl (by first | exact Or.inl rfl | exact Or.inr rfl) (fm_make (c := 4) tk T.m4 (ok_Lines___init__ T) (hr.mono (by first | decide | omega)) T.g_Lines T.b_Lines___init__ (am_cons (em_v 0) (am_nil))))
      (sm_cons (sm_setO (i := 2) sc_read_log.nd rfl (by first | exact Or.inl rfl | exact Or.inr rfl) (fm_lst (am_nil)))
      (sm_cons (sm_while 200 (passes_of rfl) (tm_notN (em_methI0 (i := 1) (c := 4) tk T.c4 T.mm4_first_word (ok_Lines_first_word T) (hr.mono (by first | decide | omega)) T.b_Lines_first_word (pv 1))) (sm_one (sm_app (pv 2) (em_callI tk (ok_entry_row T) (hr.mono (by decide)) T.g_entry_row T.k_entry_row T.b_entry_row (pv 1) (am_nil)))))
      (sm_one (sm_ret (em_ct cr_tuple cs_tuple T.z_tuple (am_cons (LcM.em (LcM.mk (own := [("row", 3)]) (im_any (em_v 2)) (blkOk_by (own := [("row", 3)]) (N := N_read_log) (sc := defScope s_read_log) (by decide +kernel)) (blk_tg (fun _ _ _ _ _ => pg_name (i := 3) sc_read_log.nd rfl (by first | exact Or.inl rfl | exact Or.inr rfl)) (does_gN) (gin_N (by decide))) (blk_ts fun _ _ _ _ _ => ts_nil) (blk_em fun _ _ _ _ _ => em_call takes_W0 (ok_made_change T) (hr.mono (by first | decide | omega)) T.g_made_change T.k_made_change T.b_made_change (am_cons (em_v 3) (am_nil)))) rfl sc_read_log.nd) (am_nil)))))))))
def m__law_source : M PV := mLst [mVar 0, mVar 1, mK (.int 0), mK (.int 0), mK (.int 0)]
def f__law_source : List PV → Option RO := runO N__law_source.length m__law_source
theorem ok__law_source (T : Txt K mg cl fa fd dT11) : FnOk P w K mg base (L2N.CX P w) 1 (fa 46) (fd 46) ["script", "salt"] (spO K cl 2 f__law_source) :=
  fnO (k := 0) (m := m__law_source) T.F__law_source sc__law_source rfl (fun cdv A outer s H E hr => by
    have hu := hu64 hr
    have tk : L2N.Takes (cxOf (L2N.CX P w) P w K mg base N__law_source "_law_source" (defScope s__law_source) (fa 46) cdv A outer s H E) (fun c d _ H' => E c d H') := L2N.takes_of rfl rfl rfl rfl
    exact (fm_lst (am_cons (em_v 0) (am_cons (em_v 1) (am_cons (em_int) (am_cons (em_int) (am_cons (em_int) (am_nil))))))))
def m__law_next : M Fl := mSeq (mSet 1 (mIxV 0 (mK (.int 0)))) (mSeq (mSet 2 (mIxV 0 (mK (.int 1)))) (mSeq (mSet 3 (mIfE (mTest (mBin pLt (mVar 2) (mCBV pLen 1))) (mIxV 1 (mVar 2)) (mBin pMod (mCB pInt [mBin pAdd (mCB pSum [mSl (mVar 1) (mNoB) (mBd (mK (.int 1)))]) (mBin pMul (mK (.int 31)) (mVar 2))]) (mK (.int 1000003))))) (mSeq (mPut 0 (mK (.int 1)) (mBin pAdd (mVar 2) (mK (.int 1)))) (mSeq (mPut 0 (mK (.int 2)) (mIfE (mTest (mBin pGeI (mCB pAbs [mVar 3]) (mBin pPow (mK (.int 10)) (mK (.int 18))))) (mBin pAdd (mCB pAbs [mVar 3]) (mCB pInt [mBin pLt (mVar 3) (mK (.int 0))])) (mK (.int 0)))) (mSeq (mPut 0 (mK (.int 3)) (mBin pAdd (mBin pMod (mCB pInt [mVar 3]) (mK (.int 2147483629))) (mBin pMul (mK (.int 17)) (mIxV 0 (mK (.int 1)))))) (mPut 0 (mK (.int 4)) (mK (.int 0))))))))
def f__law_next : PV → List PV → Option (PV × RO) := runI N__law_next.length m__law_next
theorem ok__law_next (T : Txt K mg cl fa fd dT11) : FnOk P w K mg base (L2N.CX P w) 1 (fa 47) (fd 47) ["source"] (spI K cl 1 f__law_next) :=
  fnI (k := 0) (m := m__law_next) T.F__law_next sc__law_next (fun cdv A outer s H E hr => by
    have hu := hu64 hr
    have tk : L2N.Takes (cxOf (L2N.CX P w) P w K mg base N__law_next "_law_next" (defScope s__law_next) (fa 47) cdv A outer s H E) (fun c d _ H' => E c d H') := L2N.takes_of rfl rfl rfl rfl
    exact (sm_cons (sm_set (i := 1) sc__law_next.nd rfl (by first | exact Or.inl rfl | exact Or.inr rfl) (em_ixV hu (pv 0) (em_int)))
      (sm_cons (sm_set (i := 2) sc__law_next.nd rfl (by first | exact Or.inl rfl | exact Or.inr rfl) (em_ixV hu (pv 0) (em_int)))
      (sm_cons (sm_set (i := 3) sc__law_next.nd rfl (by first | exact Or.inl rfl | exact Or.inr rfl) (em_ife (tm_cmp (br_lt hu) (em_v 2) (em_cbV cr_lenA cs_len T.z_len (pv 1)) (nomark _)) (em_ixV hu (pv 1) (em_v 2)) (em_op br_mod (em_ct call_int1 cs_int T.z_int (am_cons (em_op br_add (em_cb (cr_sum rfl) cs_sum T.z_sum (am_cons (em_sl (em_v 1) (om_none) (om_some (em_int))) (am_nil))) (em_op br_mul (em_int) (em_v 2))) (am_nil))) (em_int))))
      (sm_cons (sm_put hu (pv 0) (em_int) (em_op br_add (em_v 2) (em_int)))
      (sm_cons (sm_put hu (pv 0) (em_int) (em_ife (tm_cmp br_ge (em_cb call_abs cs_abs T.z_abs (am_cons (em_v 3) (am_nil))) (em_op br_pow (em_int) (em_int)) (nomark _)) (em_op br_add (em_cb call_abs cs_abs T.z_abs (am_cons (em_v 3) (am_nil))) (em_ct call_int1 cs_int T.z_int (am_cons (em_cmp (br_lt hu) (em_v 3) (em_int) (nomark _)) (am_nil)))) (em_int)))
      (sm_cons (sm_put hu (pv 0) (em_int) (em_op br_add (em_op br_mod (em_ct call_int1 cs_int T.z_int (am_cons (em_v 3) (am_nil))) (em_int)) (em_op br_mul (em_int) (em_ixV hu (pv 0) (em_int)))))
      (sm_one (sm_put hu (pv 0) (em_int) (em_int))))))))))
def m__law_pick : M Fl := mSeq (mIf (mTest (mBin pGtI (mIxV 0 (mK (.int 2))) (mK (.int 0)))) (mSeq (mSet 2 (mBin pMod (mCB pInt [mIxV 0 (mK (.int 2))]) (mVar 1))) (mSeq (mPut 0 (mK (.int 2)) (mBin pDiv (mIxV 0 (mK (.int 2))) (mVar 1))) (mRet (mVar 2)))) (mNx)) (mSeq (mPut 0 (mK (.int 4)) (mBin pAdd (mIxV 0 (mK (.int 4))) (mK (.int 1)))) (mSeq (mSet 3 (mBin pMod (mCB pInt [mBin pAdd (mBin pAdd (mBin pMul (mIxV 0 (mK (.int 3))) (mK (.int 48271))) (mBin pMul (mIxV 0 (mK (.int 4))) (mK (.int 1234577)))) (mK (.int 7))]) (mK (.int 2147483647)))) (mSeq (mSet 4 (mBin pMod (mCB pInt [mBin pAdd (mBin pMul (mVar 3) (mVar 3)) (mBin pMul (mK (.int 16807)) (mIxV 0 (mK (.int 4))))]) (mK (.int 2147483399)))) (mSeq (mSet 5 (mBin pMod (mCB pInt [mBin pMul (mVar 4) (mVar 4)]) (mK (.int 2147483029)))) (mRet (mBin pMod (mCB pInt [mBin pAdd (mBin pDiv (mVar 5) (mK (.int 11))) (mBin pDiv (mVar 3) (mK (.int 7)))]) (mVar 1)))))))
def f__law_pick : PV → List PV → Option (PV × RO) := runI N__law_pick.length m__law_pick
theorem ok__law_pick (T : Txt K mg cl fa fd dT11) : FnOk P w K mg base (L2N.CX P w) 1 (fa 48) (fd 48) ["source", "many"] (spI K cl 2 f__law_pick) :=
  fnI (k := 0) (m := m__law_pick) T.F__law_pick sc__law_pick (fun cdv A outer s H E hr => by
    have hu := hu64 hr
    have tk : L2N.Takes (cxOf (L2N.CX P w) P w K mg base N__law_pick "_law_pick" (defScope s__law_pick) (fa 48) cdv A outer s H E) (fun c d _ H' => E c d H') := L2N.takes_of rfl rfl rfl rfl
    exact (sm_cons (sm_if (tm_cmp br_gt (em_ixV hu (pv 0) (em_int)) (em_int) (nomark _)) (sm_cons (sm_set (i := 2) sc__law_pick.nd rfl (by first | exact Or.inl rfl | exact Or.inr rfl) (em_op br_mod (em_ct call_int1 cs_int T.z_int (am_cons (em_ixV hu (pv 0) (em_int)) (am_nil))) (em_v 1)))
      (sm_cons (sm_put hu (pv 0) (em_int) (em_op br_div (em_ixV hu (pv 0) (em_int)) (em_v 1)))
      (sm_one (sm_ret (em_v 2))))) (sm_nil))
      (sm_cons (sm_put hu (pv 0) (em_int) (em_op br_add (em_ixV hu (pv 0) (em_int)) (em_int)))
      (sm_cons (sm_set (i := 3) sc__law_pick.nd rfl (by first | exact Or.inl rfl | exact Or.inr rfl) (em_op br_mod (em_ct call_int1 cs_int T.z_int (am_cons (em_op br_add (em_op br_add (em_op br_mul (em_ixV hu (pv 0) (em_int)) (em_int)) (em_op br_mul (em_ixV hu (pv 0) (em_int)) (em_int))) (em_int)) (am_nil))) (em_int)))
      (sm_cons (sm_set (i := 4) sc__law_pick.nd rfl (by first | exact Or.inl rfl | exact Or.inr rfl) (em_op br_mod (em_ct call_int1 cs_int T.z_int (am_cons (em_op br_add (em_op br_mul (em_v 3) (em_v 3)) (em_op br_mul (em_int) (em_ixV hu (pv 0) (em_int)))) (am_nil))) (em_int)))
      (sm_cons (sm_set (i := 5) sc__law_pick.nd rfl (by first | exact Or.inl rfl | exact Or.inr rfl) (em_op br_mod (em_ct call_int1 cs_int T.z_int (am_cons (em_op br_mul (em_v 4) (em_v 4)) (am_nil))) (em_int)))
      (sm_one (sm_ret (em_op br_mod (em_ct call_int1 cs_int T.z_int (am_cons (em_op br_add (em_op br_div (em_v 5) (em_int)) (em_op br_div (em_v 3) (em_int))) (am_nil))) (em_v 1))))))))))
def m__law_one_in : M Fl := mRet (mBin pEq (mCallI 0 f__law_pick [mVar 1]) (mK (.int 0)))
def f__law_one_in : PV → List PV → Option (PV × RO) := runI N__law_one_in.length m__law_one_in
theorem ok__law_one_in (T : Txt K mg cl fa fd dT11) : FnOk P w K mg base (L2N.CX P w) 2 (fa 49) (fd 49) ["source", "many"] (spI K cl 2 f__law_one_in) :=
  fnI (k := 1) (m := m__law_one_in) T.F__law_one_in sc__law_one_in (fun cdv A outer s H E hr => by
    have hu := hu64 hr
    have tk : L2N.Takes (cxOf (L2N.CX P w) P w K mg base N__law_one_in "_law_one_in" (defScope s__law_one_in) (fa 49) cdv A outer s H E) (fun c d _ H' => E c d H') := L2N.takes_of rfl rfl rfl rfl
    exact (sm_one (sm_ret (em_cmp (br_eq hu) (em_callI tk (ok__law_pick T) (hr.mono (by decide)) T.g__law_pick T.k__law_pick T.b__law_pick (pv 0) (am_cons (em_v 1) (am_nil))) (em_int) (nomark _)))))
def m__law_one_of : M Fl := mRet (mIxV 1 (mCallI 0 f__law_pick [mCBV pLen 1]))
def f__law_one_of : PV → List PV → Option (PV × RO) := runI N__law_one_of.length m__law_one_of
theorem ok__law_one_of (T : Txt K mg cl fa fd dT11) : FnOk P w K mg base (L2N.CX P w) 2 (fa 50) (fd 50) ["source", "row"] (spI K cl 2 f__law_one_of) :=
  fnI (k := 1) (m := m__law_one_of) T.F__law_one_of sc__law_one_of (fun cdv A outer s H E hr => by
    have hu := hu64 hr
    have tk : L2N.Takes (cxOf (L2N.CX P w) P w K mg base N__law_one_of "_law_one_of" (defScope s__law_one_of) (fa 50) cdv A outer s H E) (fun c d _ H' => E c d H') := L2N.takes_of rfl rfl rfl rfl
    exact (sm_one (sm_ret (em_ixV hu (pv 1) (em_callI tk (ok__law_pick T) (hr.mono (by decide)) T.g__law_pick T.k__law_pick T.b__law_pick (pv 0) (am_cons (em_cbV cr_lenA cs_len T.z_len (pv 1)) (am_nil)))))))
def m__law_letter : M Fl := mRet (mBin pIx (mK (.str "abcdefghijklmnopqrstuvwxyz")) (mBin pMod (mCB pInt [mVar 0]) (mK (.int 26))))
def f__law_letter : List PV → Option RO := runP N__law_letter.length m__law_letter
theorem ok__law_letter (T : Txt K mg cl fa fd dT11) : FnOk P w K mg base (L2N.CX P w) 1 (fa 51) (fd 51) ["k"] (spP K cl 1 f__law_letter) :=
  fnP (k := 0) (m := m__law_letter) T.F__law_letter sc__law_letter (fun cdv A outer s H E hr => by
    have hu := hu64 hr
    have tk : L2N.Takes (cxOf (L2N.CX P w) P w K mg base N__law_letter "_law_letter" (defScope s__law_letter) (fa 51) cdv A outer s H E) (fun c d _ H' => E c d H') := L2N.takes_of rfl rfl rfl rfl
    exact (sm_one (sm_ret (em_ix hu (em_str) (em_op br_mod (em_ct call_int1 cs_int T.z_int (am_cons (em_v 0) (am_nil))) (em_int))))))
def m__law_word : M Fl := mSeq (mSet 2 (mBin pAdd (mK (.int 1)) (mCallI 0 f__law_pick [mVar 1]))) (mRet (mBinS pJoin (mK (.str "")) (mLc [3] (mRng1 (mVar 2)) (gN 3) mYes (mCall f__law_letter [mCallI 0 f__law_pick [mK (.int 26)]]))))
def f__law_word : PV → List PV → Option (PV × RO) := runI N__law_word.length m__law_word
theorem ok__law_word (T : Txt K mg cl fa fd dT11) : FnOk P w K mg base (L2N.CX P w) 2 (fa 52) (fd 52) ["source", "longest"] (spI K cl 2 f__law_word) :=
  fnI (k := 1) (m := m__law_word) T.F__law_word sc__law_word (fun cdv A outer s H E hr => by
    have hu := hu64 hr
    have tk : L2N.Takes (cxOf (L2N.CX P w) P w K mg base N__law_word "_law_word" (defScope s__law_word) (fa 52) cdv A outer s H E) (fun c d _ H' => E c d H') := L2N.takes_of rfl rfl rfl rfl
    exact (sm_cons (sm_set (i := 2) sc__law_word.nd rfl (by first | exact Or.inl rfl | exact Or.inr rfl) (em_op br_add (em_int) (em_callI tk (ok__law_pick T) (hr.mono (by decide)) T.g__law_pick T.k__law_pick T.b__law_pick (pv 0) (am_cons (em_v 1) (am_nil)))))
      (sm_one (sm_ret (em_join (em_str) (LcM.em (LcM.mk (own := [("k", 3)]) (im_rng1 (em_v 2) T.z_range) (blkOk_by (own := [("k", 3)]) (N := N__law_word) (sc := defScope s__law_word) (by decide +kernel)) (blk_tg (fun _ _ _ _ _ => pg_name (i := 3) sc__law_word.nd rfl (by first | exact Or.inl rfl | exact Or.inr rfl)) (does_gN) (gin_N (by decide))) (blk_ts fun _ _ _ _ _ => ts_nil) (blk_em fun _ _ _ _ _ => em_call takes_W0 (ok__law_letter T) (hr.mono (by first | decide | omega)) T.g__law_letter T.k__law_letter T.b__law_letter (am_cons (em_callI takes_W0 (ok__law_pick T) (hr.mono (by decide)) T.g__law_pick T.k__law_pick T.b__law_pick (pv 0) (am_cons (em_int) (am_nil))) (am_nil)))) rfl sc__law_word.nd))))))
def m__law_words : M Fl := mSeq (mSetO 4 (mLst [])) (mSeq (mFor (mRng1 (mVar 1)) (gN 5) (mSeq (mSet 6 (mCallI 0 f__law_word [mVar 2])) (mSeq (mSet 7 (mBin pAdd (mBin pAdd (mCBV pLen 3) (mCBV pLen 4)) (mK (.int 1)))) (mSeq (mSet 8 (mBin pAdd (mLst [mVar 6]) (mLc [9] (mRng1 (mVar 7)) (gN 9) mYes (mBin pAdd (mBin pAdd (mSl (mVar 6) (mNoB) (mBd (mBin pSub (mVar 2) (mK (.int 1))))) (mCall f__law_letter [mBin pDiv (mVar 9) (mK (.int 26))])) (mCall f__law_letter [mVar 9]))))) (mApp 4 (mBin pIx (mLc [10] (mIterA (mVar 8)) (gN 10) (mAnd (mTest (mBin pHasNot (mVar 10) (mVar 3))) (mTest (mBinR pHasNot (mVar 10) 4))) (mVar 10)) (mK (.int 0)))))))) (mRet (mVar 4)))
def f__law_words : PV → List PV → Option (PV × RO) := runI N__law_words.length m__law_words
theorem ok__law_words (T : Txt K mg cl fa fd dT11) : FnOk P w K mg base (L2N.CX P w) 3 (fa 53) (fd 53) ["source", "many", "longest", "spent"] (spI K cl 4 f__law_words) :=
  fnI (k := 2) (m := m__law_words) T.F__law_words sc__law_words (fun cdv A outer s H E hr => by
    have hu := hu64 hr
    have tk : L2N.Takes (cxOf (L2N.CX P w) P w K mg base N__law_words "_law_words" (defScope s__law_words) (fa 53) cdv A outer s H E) (fun c d _ H' => E c d H') := L2N.takes_of rfl rfl rfl rfl
    exact (sm_cons (sm_setO (i := 4) sc__law_words.nd rfl (by first | exact Or.inl rfl | exact Or.inr rfl) (fm_lst (am_nil)))
      (sm_cons (sm_for (passes_of rfl) rfl (im_rng1 (em_v 1) T.z_range) (gm_of (pg_name (i := 5) sc__law_words.nd rfl (by first | exact Or.inl rfl | exact Or.inr rfl)) (does_gN)) (sm_cons (sm_set (i := 6) sc__law_words.nd rfl (by first | exact Or.inl rfl | exact Or.inr rfl) (em_callI tk (ok__law_word T) (hr.mono (by decide)) T.g__law_word T.k__law_word T.b__law_word (pv 0) (am_cons (em_v 2) (am_nil))))
      (sm_cons (sm_set (i := 7) sc__law_words.nd rfl (by first | exact Or.inl rfl | exact Or.inr rfl) (em_op br_add (em_op br_add (em_cbV cr_lenA cs_len T.z_len (pv 3)) (em_cbV cr_lenA cs_len T.z_len (pv 4))) (em_int)))
      (sm_cons (sm_set (i := 8) sc__law_words.nd rfl (by first | exact Or.inl rfl | exact Or.inr rfl) (em_op br_add (em_lst (am_cons (em_v 6) (am_nil))) (LcM.em (LcM.mk (own := [("j", 9)]) (im_rng1 (em_v 7) T.z_range) (blkOk_by (own := [("j", 9)]) (N := N__law_words) (sc := defScope s__law_words) (by decide +kernel)) (blk_tg (fun _ _ _ _ _ => pg_name (i := 9) sc__law_words.nd rfl (by first | exact Or.inl rfl | exact Or.inr rfl)) (does_gN) (gin_N (by decide))) (blk_ts fun _ _ _ _ _ => ts_nil) (blk_em fun _ _ _ _ _ => em_op br_add (em_op br_add (em_sl (em_v 6) (om_none) (om_some (em_op br_sub (em_v 2) (em_int)))) (em_call takes_W0 (ok__law_letter T) (hr.mono (by first | decide | omega)) T.g__law_letter T.k__law_letter T.b__law_letter (am_cons (em_op br_div (em_v 9) (em_int)) (am_nil)))) (em_call takes_W0 (ok__law_letter T) (hr.mono (by first | decide | omega)) T.g__law_letter T.k__law_letter T.b__law_letter (am_cons (em_v 9) (am_nil))))) rfl sc__law_words.nd)))
      (sm_one (sm_app (pv 4) (em_ix hu (LcM.em (LcM.mk (own := [("one", 10)]) (im_any (em_v 8)) (blkOk_by (own := [("one", 10)]) (N := N__law_words) (sc := defScope s__law_words) (by decide +kernel)) (blk_tg (fun _ _ _ _ _ => pg_name (i := 10) sc__law_words.nd rfl (by first | exact Or.inl rfl | exact Or.inr rfl)) (does_gN) (gin_N (by decide))) (blk_ts fun _ _ _ _ _ => ts_one (tm_w (wm_and (tm_cmp (br_hasNot hu) (em_v 10) (em_v 3) rfl) (wm_and1 (tm_cmpRt (br_hasNot hu) (em_v 10) (pv 4) rfl))))) (blk_em fun _ _ _ _ _ => em_v 10)) rfl sc__law_words.nd) (em_int))))))))
      (sm_one (sm_ret (em_v 4))))))
def m__law_lists (rec : List PV → Option RO) : M Fl := mRet (mIfE (mTru (mIsa (ansT (ocF 3) "tuple") (mVar 0))) (mLc [1] (mIterA (mVar 0)) (gN 1) mYes (mCall rec [mVar 1])) (mVar 0))
def fd__law_lists : Nat → List PV → Option RO
  | 0 => fun _ => none
  | d + 1 => runP N__law_lists.length (m__law_lists (fd__law_lists d))
def f__law_lists : List PV → Option RO := fd__law_lists 8
theorem okd__law_lists (T : Txt K mg cl fa fd dT11) : ∀ d, FnOk P w K mg base (L2N.CX P w) (0 + d) (fa 54) (fd 54) ["thing"] (spP K cl 1 (fd__law_lists d))
  | 0 => fn_none
  | d + 1 => have ih := okd__law_lists T d
    fnP (k := 0 + d) (m := m__law_lists (fd__law_lists d)) T.F__law_lists sc__law_lists (fun cdv A outer s H E hr => by
    have hu := hu64 hr
    have tk : L2N.Takes (cxOf (L2N.CX P w) P w K mg base N__law_lists "_law_lists" (defScope s__law_lists) (fa 54) cdv A outer s H E) (fun c d _ H' => E c d H') := L2N.takes_of rfl rfl rfl rfl
    exact (sm_one (sm_ret (em_ife (tm_tru (em_isa (isa_TF T.ow3 T.kt3_tuple) (.ty _) T.z_isinstance (em_v 0) (pe_bltn rfl T.z_tuple (v := .ty "tuple") (by rfl) rfl))) (LcM.em (LcM.mk (own := [("part", 1)]) (im_any (em_v 0)) (blkOk_by (own := [("part", 1)]) (N := N__law_lists) (sc := defScope s__law_lists) (by decide +kernel)) (blk_tg (fun _ _ _ _ _ => pg_name (i := 1) sc__law_lists.nd rfl (by first | exact Or.inl rfl | exact Or.inr rfl)) (does_gN) (gin_N (by decide))) (blk_ts fun _ _ _ _ _ => ts_nil) (blk_em fun _ _ _ _ _ => em_call takes_W0 (ih) (hr.mono (by first | decide | omega)) T.g__law_lists T.k__law_lists T.b__law_lists (am_cons (em_v 1) (am_nil)))) rfl sc__law_lists.nd) (em_v 0)))))
theorem ok__law_lists (T : Txt K mg cl fa fd dT11) : FnOk P w K mg base (L2N.CX P w) 8 (fa 54) (fd 54) ["thing"] (spP K cl 1 f__law_lists) := okd__law_lists T 8
def m__law_same (rec : List PV → Option RO) : M Fl := mSeq (mIf (mTest (mIsN false (mVar 1))) (mRet (mIsN false (mVar 0))) (mNx)) (mSeq (mIf (mTru (mIsa (ansT (ocF 3) "bool") (mVar 1))) (mRet (mB (mAnd (mTest (mIsa (ansT (ocF 3) "bool") (mVar 0))) (mTest (mBin pEq (mVar 0) (mVar 1)))))) (mNx)) (mSeq (mIf (mTru (mIsa (ansT (ocF 3) "tuple") (mVar 1))) (mSeq (mIf (mOr (mNot (mTru (mIsa (ansT (ocF 3) "tuple") (mVar 0)))) (mTest (mBin pNe (mCBV pLen 0) (mCBV pLen 1)))) (mRet (mK (.bl false))) (mNx)) (mRet (mCB pAll [mLc [2] (mRng1 (mCBV pLen 1)) (gN 2) mYes (mCall rec [mIxV 0 (mVar 2), mIxV 1 (mVar 2)])]))) (mNx)) (mSeq (mIf (mTru (mIsa (ansT (ocF 3) "int") (mVar 1))) (mRet (mB (mAnd (mTest (mIsa (ansT (ocF 3) "int") (mVar 0))) (mAnd (mTest (mB (mNot (mTest (mIsa (ansT (ocF 3) "bool") (mVar 0)))))) (mTest (mBin pEq (mVar 0) (mVar 1))))))) (mNx)) (mRet (mB (mAnd (mTest (mIsa (ansT (ocF 3) "str") (mVar 0))) (mTest (mBin pEq (mVar 0) (mVar 1)))))))))
def fd__law_same : Nat → List PV → Option RO
  | 0 => fun _ => none
  | d + 1 => runP N__law_same.length (m__law_same (fd__law_same d))
def f__law_same : List PV → Option RO := fd__law_same 8
theorem okd__law_same (T : Txt K mg cl fa fd dT11) : ∀ d, FnOk P w K mg base (L2N.CX P w) (0 + d) (fa 55) (fd 55) ["actual", "due"] (spP K cl 2 (fd__law_same d))
  | 0 => fn_none
  | d + 1 => have ih := okd__law_same T d
    fnP (k := 0 + d) (m := m__law_same (fd__law_same d)) T.F__law_same sc__law_same (fun cdv A outer s H E hr => by
    have hu := hu64 hr
    have tk : L2N.Takes (cxOf (L2N.CX P w) P w K mg base N__law_same "_law_same" (defScope s__law_same) (fa 55) cdv A outer s H E) (fun c d _ H' => E c d H') := L2N.takes_of rfl rfl rfl rfl
    exact (sm_cons (sm_if (tm_isN (em_v 1)) (sm_one (sm_ret (em_isN (em_v 0)))) (sm_nil))
      (sm_cons (sm_if (tm_tru (em_isa (isa_TF T.ow3 T.kt3_bool) (.ty _) T.z_isinstance (em_v 1) (pe_bltn rfl T.z_bool (v := .ty "bool") (by rfl) rfl))) (sm_one (sm_ret (em_and (em_isa (isa_TF T.ow3 T.kt3_bool) (.ty _) T.z_isinstance (em_v 0) (pe_bltn rfl T.z_bool (v := .ty "bool") (by rfl) rfl)) (em_one (em_cmp (br_eq hu) (em_v 0) (em_v 1) (nomark _)))))) (sm_nil))
      (sm_cons (sm_if (tm_tru (em_isa (isa_TF T.ow3 T.kt3_tuple) (.ty _) T.z_isinstance (em_v 1) (pe_bltn rfl T.z_tuple (v := .ty "tuple") (by rfl) rfl))) (sm_cons (sm_if (tm_w (wm_or (tm_not (tm_tru (em_isa (isa_TF T.ow3 T.kt3_tuple) (.ty _) T.z_isinstance (em_v 0) (pe_bltn rfl T.z_tuple (v := .ty "tuple") (by rfl) rfl)))) (wm_or1 (tm_cmp (br_ne hu) (em_cbV cr_lenA cs_len T.z_len (pv 0)) (em_cbV cr_lenA cs_len T.z_len (pv 1)) (nomark _))))) (sm_one (sm_ret (em_bl))) (sm_nil))
      (sm_one (sm_ret (em_cb (cr_all rfl) cs_all T.z_all (am_cons (LcM.em (LcM.mk (own := [("k", 2)]) (im_rng1 (em_cbV cr_lenA cs_len T.z_len (pv 1)) T.z_range) (blkOk_by (own := [("k", 2)]) (N := N__law_same) (sc := defScope s__law_same) (by decide +kernel)) (blk_tg (fun _ _ _ _ _ => pg_name (i := 2) sc__law_same.nd rfl (by first | exact Or.inl rfl | exact Or.inr rfl)) (does_gN) (gin_N (by decide))) (blk_ts fun _ _ _ _ _ => ts_nil) (blk_em fun _ _ _ _ _ => em_call takes_W0 (ih) (hr.mono (by first | decide | omega)) T.g__law_same T.k__law_same T.b__law_same (am_cons (em_ixV hu (pv 0) (em_v 2)) (am_cons (em_ixV hu (pv 1) (em_v 2)) (am_nil))))) rfl sc__law_same.nd) (am_nil)))))) (sm_nil))
      (sm_cons (sm_if (tm_tru (em_isa (isa_TF T.ow3 T.kt3_int) (.ty _) T.z_isinstance (em_v 1) (pe_bltn rfl T.z_int (v := .ty "int") (by rfl) rfl))) (sm_one (sm_ret (em_and (em_isa (isa_TF T.ow3 T.kt3_int) (.ty _) T.z_isinstance (em_v 0) (pe_bltn rfl T.z_int (v := .ty "int") (by rfl) rfl)) (em_and (em_not (em_isa (isa_TF T.ow3 T.kt3_bool) (.ty _) T.z_isinstance (em_v 0) (pe_bltn rfl T.z_bool (v := .ty "bool") (by rfl) rfl))) (em_one (em_cmp (br_eq hu) (em_v 0) (em_v 1) (nomark _))))))) (sm_nil))
      (sm_one (sm_ret (em_and (em_isa (isa_TF T.ow3 T.kt3_str) (.ty _) T.z_isinstance (em_v 0) (pe_bltn rfl T.z_str (v := .ty "str") (by rfl) rfl)) (em_one (em_cmp (br_eq hu) (em_v 0) (em_v 1) (nomark _)))))))))))
theorem ok__law_same (T : Txt K mg cl fa fd dT11) : FnOk P w K mg base (L2N.CX P w) 8 (fa 55) (fd 55) ["actual", "due"] (spP K cl 2 f__law_same) := okd__law_same T 8
def m__law_change : M Fl := mSeq (mIf (mTest (mBin pEq (mIxV 0 (mK (.int 0))) (mK (.str "add")))) (mSeq (mSet 2 (mIxV 0 (mK (.int 1)))) (mRet (mTup [mK (.str "add"), mMake 3 f_Term___init__ [mIxV 2 (mK (.int 0)), mIxV 2 (mK (.int 1)), mIxV 2 (mK (.int 2)), mIxV 2 (mK (.int 3)), mIxV 2 (mK (.int 4)), mIxV 2 (mK (.int 5))]]))) (mNx)) (mRet (mIfE (mTest (mBin pEq (mVar 1) (mK (.int 1)))) (mCall f__law_lists [mVar 0]) (mVar 0)))
def f__law_change : List PV → Option RO := runP N__law_change.length m__law_change
theorem ok__law_change (T : Txt K mg cl fa fd dT11) : FnOk P w K mg base (L2N.CX P w) 12 (fa 56) (fd 56) ["change", "form"] (spP K cl 2 f__law_change) :=
  fnP (k := 11) (m := m__law_change) T.F__law_change sc__law_change (fun cdv A outer s H E hr => by
    have hu := hu64 hr
    have tk : L2N.Takes (cxOf (L2N.CX P w) P w K mg base N__law_change "_law_change" (defScope s__law_change) (fa 56) cdv A outer s H E) (fun c d _ H' => E c d H') := L2N.takes_of rfl rfl rfl rfl
    exact (sm_cons (sm_if (tm_cmp (br_eq hu) (em_ixV hu (pv 0) (em_int)) (em_str) (nomark _)) (sm_cons (sm_set (i := 2) sc__law_change.nd rfl (by first | exact Or.inl rfl | exact Or.inr rfl) (em_ixV hu (pv 0) (em_int)))
      (sm_one (sm_ret (em_tup (am_cons (em_str) (am_cons (em_makeK (c := 3) (ms := [mIxV 2 (mK (.int 0)), mIxV 2 (mK (.int 1)), mIxV 2 (mK (.int 2))]) (mk := [mIxV 2 (mK (.int 3)), mIxV 2 (mK (.int 4)), mIxV 2 (mK (.int 5))]) tk T.m3 (ok_Term___init__ T) (hr.mono (by first | decide | omega)) T.g_Term T.kb_Term___init__ (am_cons (em_ixV hu (pv 2) (em_int)) (am_cons (em_ixV hu (pv 2) (em_int)) (am_cons (em_ixV hu (pv 2) (em_int)) (am_nil)))) (km_cons (em_ixV hu (pv 2) (em_int)) (km_cons (em_ixV hu (pv 2) (em_int)) (km_cons (em_ixV hu (pv 2) (em_int)) (km_nil))))) (am_nil))))))) (sm_nil))
      (sm_one (sm_ret (em_ife (tm_cmp (br_eq hu) (em_v 1) (em_int) (nomark _)) (em_call tk (ok__law_lists T) (hr.mono (by first | decide | omega)) T.g__law_lists T.k__law_lists T.b__law_lists (am_cons (em_v 0) (am_nil))) (em_v 0))))))
def m__law_wide_way : M Fl := mSeq (mSetO 3 (mLc [4] (mRng1 (mCallI 0 f__law_pick [mBin pSub (mK (.int 7)) (mCB pInt [mVar 2])])) (gN 4) mYes (mCallI 0 f__law_one_of [mVar 1]))) (mSeq (mSetO 3 (mLc [5] (mIterA (mVar 3)) (gN 5) mYes (mIfE (mTru (mCallI 0 f__law_one_in [mK (.int 6)])) (mBin pAdd (mK (.str "*")) (mVar 5)) (mVar 5)))) (mSeq (mIf (mTru (mVar 2)) (mIns 3 (mCallI 0 f__law_pick [mBin pAdd (mCBV pLen 3) (mK (.int 1))]) (mK (.str "_"))) (mNx)) (mRet (mCB pTuple [mVar 3]))))
def f__law_wide_way : PV → List PV → Option (PV × RO) := runI N__law_wide_way.length m__law_wide_way
theorem ok__law_wide_way (T : Txt K mg cl fa fd dT11) : FnOk P w K mg base (L2N.CX P w) 3 (fa 57) (fd 57) ["source", "pool", "gap"] (spI K cl 3 f__law_wide_way) :=
  fnI (k := 2) (m := m__law_wide_way) T.F__law_wide_way sc__law_wide_way (fun cdv A outer s H E hr => by
    have hu := hu64 hr
    have tk : L2N.Takes (cxOf (L2N.CX P w) P w K mg base N__law_wide_way "_law_wide_way" (defScope s__law_wide_way) (fa 57) cdv A outer s H E) (fun c d _ H' => E c d H') := L2N.takes_of rfl rfl rfl rfl
    exact (sm_cons (LcM.setO (i := 3) (LcM.mk (own := [("k", 4)]) (im_rng1 (em_callI tk (ok__law_pick T) (hr.mono (by decide)) T.g__law_pick T.k__law_pick T.b__law_pick (pv 0) (am_cons (em_op br_sub (em_int) (em_ct call_int1 cs_int T.z_int (am_cons (em_v 2) (am_nil)))) (am_nil))) T.z_range) (blkOk_by (own := [("k", 4)]) (N := N__law_wide_way) (sc := defScope s__law_wide_way) (by decide +kernel)) (blk_tg (fun _ _ _ _ _ => pg_name (i := 4) sc__law_wide_way.nd rfl (by first | exact Or.inl rfl | exact Or.inr rfl)) (does_gN) (gin_N (by decide))) (blk_ts fun _ _ _ _ _ => ts_nil) (blk_em fun _ _ _ _ _ => em_callI takes_W0 (ok__law_one_of T) (hr.mono (by decide)) T.g__law_one_of T.k__law_one_of T.b__law_one_of (pv 0) (am_cons (em_v 1) (am_nil)))) rfl sc__law_wide_way.nd rfl rfl (sw_true rfl rfl rfl (by decide +kernel)))
      (sm_cons (LcM.setO (i := 3) (LcM.mk (own := [("item", 5)]) (im_any (em_v 3)) (blkOk_by (own := [("item", 5)]) (N := N__law_wide_way) (sc := defScope s__law_wide_way) (by decide +kernel)) (blk_tg (fun _ _ _ _ _ => pg_name (i := 5) sc__law_wide_way.nd rfl (by first | exact Or.inl rfl | exact Or.inr rfl)) (does_gN) (gin_N (by decide))) (blk_ts fun _ _ _ _ _ => ts_nil) (blk_em fun _ _ _ _ _ => em_ife (tm_tru (em_callI takes_W0 (ok__law_one_in T) (hr.mono (by decide)) T.g__law_one_in T.k__law_one_in T.b__law_one_in (pv 0) (am_cons (em_int) (am_nil)))) (em_op br_add (em_str) (em_v 5)) (em_v 5))) rfl sc__law_wide_way.nd rfl rfl (sw_true rfl rfl rfl (by decide +kernel)))
      (sm_cons (sm_if (tm_tru (em_v 2)) (sm_one (sm_ins (pv 3) (em_callI tk (ok__law_pick T) (hr.mono (by decide)) T.g__law_pick T.k__law_pick T.b__law_pick (pv 0) (am_cons (em_op br_add (em_cbV cr_lenA cs_len T.z_len (pv 3)) (em_int)) (am_nil))) (em_str))) (sm_nil))
      (sm_one (sm_ret (em_ct cr_tuple cs_tuple T.z_tuple (am_cons (em_v 3) (am_nil)))))))))
def m__law_wide_reach : M Fl := mSeq (mSet 3 (mBin pAdd (mLst [mTup [mK (.str "work")], mTup [mK (.str "plain")], mTup [mK (.str "quoted")]]) (mLc [4] (mIterA (mVar 1)) (gN 4) mYes (mTup [mK (.str "in"), mVar 4])))) (mRet (mCallI 0 f__law_one_of [mBin pAdd (mVar 3) (mLc [4] (mIterA (mVar 2)) (gN 4) mYes (mTup [mK (.str "behind"), mVar 4]))]))
def f__law_wide_reach : PV → List PV → Option (PV × RO) := runI N__law_wide_reach.length m__law_wide_reach
theorem ok__law_wide_reach (T : Txt K mg cl fa fd dT11) : FnOk P w K mg base (L2N.CX P w) 3 (fa 58) (fd 58) ["source", "heads", "bare"] (spI K cl 3 f__law_wide_reach) :=
  fnI (k := 2) (m := m__law_wide_reach) T.F__law_wide_reach sc__law_wide_reach (fun cdv A outer s H E hr => by
    have hu := hu64 hr
    have tk : L2N.Takes (cxOf (L2N.CX P w) P w K mg base N__law_wide_reach "_law_wide_reach" (defScope s__law_wide_reach) (fa 58) cdv A outer s H E) (fun c d _ H' => E c d H') := L2N.takes_of rfl rfl rfl rfl
    exact (sm_cons (sm_set (i := 3) sc__law_wide_reach.nd rfl (by first | exact Or.inl rfl | exact Or.inr rfl) (em_op br_add (em_lst (am_cons (em_tup (am_cons (em_str) (am_nil))) (am_cons (em_tup (am_cons (em_str) (am_nil))) (am_cons (em_tup (am_cons (em_str) (am_nil))) (am_nil))))) (LcM.em (LcM.mk (own := [("word", 4)]) (im_any (em_v 1)) (blkOk_by (own := [("word", 4)]) (N := N__law_wide_reach) (sc := defScope s__law_wide_reach) (by decide +kernel)) (blk_tg (fun _ _ _ _ _ => pg_name (i := 4) sc__law_wide_reach.nd rfl (by first | exact Or.inl rfl | exact Or.inr rfl)) (does_gN) (gin_N (by decide))) (blk_ts fun _ _ _ _ _ => ts_nil) (blk_em fun _ _ _ _ _ => em_tup (am_cons (em_str) (am_cons (em_v 4) (am_nil))))) rfl sc__law_wide_reach.nd)))
      (sm_one (sm_ret (em_callI tk (ok__law_one_of T) (hr.mono (by decide)) T.g__law_one_of T.k__law_one_of T.b__law_one_of (pv 0) (am_cons (em_op br_add (em_v 3) (LcM.em (LcM.mk (own := [("word", 4)]) (im_any (em_v 2)) (blkOk_by (own := [("word", 4)]) (N := N__law_wide_reach) (sc := defScope s__law_wide_reach) (by decide +kernel)) (blk_tg (fun _ _ _ _ _ => pg_name (i := 4) sc__law_wide_reach.nd rfl (by first | exact Or.inl rfl | exact Or.inr rfl)) (does_gN) (gin_N (by decide))) (blk_ts fun _ _ _ _ _ => ts_nil) (blk_em fun _ _ _ _ _ => em_tup (am_cons (em_str) (am_cons (em_v 4) (am_nil))))) rfl sc__law_wide_reach.nd)) (am_nil)))))))
def m__law_wide_term : M Fl := mSeq (mSet 6 (mCallI 0 f__law_pick [mK (.int 5)])) (mSeq (mSet 7 (mLc [13] (mRng1 (mK (.int 3))) (gN 13) mYes (mCallI 0 f__law_one_of [mVar 1]))) (mSeq (mSet 8 (mIfE (mTest (mBin pEq (mVar 6) (mK (.int 3)))) (mTup [mIxV 7 (mK (.int 0)), mK (.str "_"), mIxV 7 (mK (.int 2))]) (mCB pTuple [mSl (mVar 7) (mNoB) (mBd (mBin pAdd (mK (.int 1)) (mBin pMod (mVar 6) (mK (.int 3)))))]))) (mSeq (mSet 9 (mCB pTuple [mLc [13] (mRng1 (mBin pAdd (mK (.int 1)) (mCallI 0 f__law_pick [mK (.int 3)]))) (gN 13) mYes (mCallI 0 f__law_wide_way [mVar 3, mBin pEq (mVar 6) (mK (.int 3))])])) (mSeq (mSet 10 (mCallI 0 f__law_wide_reach [mVar 2, mLc [14] (mIterA (mVar 1)) (gN 14) (mTest (mBin pHasNot (mVar 14) (mVar 2))) (mVar 14)])) (mSeq (mSet 11 (mIfE (mTru (mCallI 0 f__law_one_in [mK (.int 3)])) (mCallI 0 f__law_wide_way [mVar 3, mBin pEq (mVar 6) (mK (.int 3))]) (mK .non))) (mSeq (mSet 12 (mIfE (mAnd (mTru (mVar 5)) (mTru (mCallI 0 f__law_one_in [mK (.int 2)]))) (mBin pIx (mCallI 0 f__law_one_of [mVar 5]) (mK (.int 0))) (mK .non))) (mRet (mTup [mVar 4, mVar 8, mVar 9, mVar 10, mVar 11, mVar 12]))))))))
def f__law_wide_term : PV → List PV → Option (PV × RO) := runI N__law_wide_term.length m__law_wide_term
theorem ok__law_wide_term (T : Txt K mg cl fa fd dT11) : FnOk P w K mg base (L2N.CX P w) 4 (fa 59) (fd 59) ["source", "words", "heads", "pool", "name", "maps"] (spI K cl 6 f__law_wide_term) :=
  fnI (k := 3) (m := m__law_wide_term) T.F__law_wide_term sc__law_wide_term (fun cdv A outer s H E hr => by
    have hu := hu64 hr
    have tk : L2N.Takes (cxOf (L2N.CX P w) P w K mg base N__law_wide_term "_law_wide_term" (defScope s__law_wide_term) (fa 59) cdv A outer s H E) (fun c d _ H' => E c d H') := L2N.takes_of rfl rfl rfl rfl
    exact (sm_cons (sm_set (i := 6) sc__law_wide_term.nd rfl (by first | exact Or.inl rfl | exact Or.inr rfl) (em_callI tk (ok__law_pick T) (hr.mono (by decide)) T.g__law_pick T.k__law_pick T.b__law_pick (pv 0) (am_cons (em_int) (am_nil))))
      (sm_cons (LcM.set (i := 7) (LcM.mk (own := [("k", 13)]) (im_rng1 (em_int) T.z_range) (blkOk_by (own := [("k", 13)]) (N := N__law_wide_term) (sc := defScope s__law_wide_term) (by decide +kernel)) (blk_tg (fun _ _ _ _ _ => pg_name (i := 13) sc__law_wide_term.nd rfl (by first | exact Or.inl rfl | exact Or.inr rfl)) (does_gN) (gin_N (by decide))) (blk_ts fun _ _ _ _ _ => ts_nil) (blk_em fun _ _ _ _ _ => em_callI takes_W0 (ok__law_one_of T) (hr.mono (by decide)) T.g__law_one_of T.k__law_one_of T.b__law_one_of (pv 0) (am_cons (em_v 1) (am_nil)))) rfl sc__law_wide_term.nd rfl rfl (sw_true rfl rfl rfl (by decide +kernel)))
      (sm_cons (sm_set (i := 8) sc__law_wide_term.nd rfl (by first | exact Or.inl rfl | exact Or.inr rfl) (em_ife (tm_cmp (br_eq hu) (em_v 6) (em_int) (nomark _)) (em_tup (am_cons (em_ixV hu (pv 7) (em_int)) (am_cons (em_str) (am_cons (em_ixV hu (pv 7) (em_int)) (am_nil))))) (em_ct cr_tuple cs_tuple T.z_tuple (am_cons (em_sl (em_v 7) (om_none) (om_some (em_op br_add (em_int) (em_op br_mod (em_v 6) (em_int))))) (am_nil)))))
      (sm_cons (sm_set (i := 9) sc__law_wide_term.nd rfl (by first | exact Or.inl rfl | exact Or.inr rfl) (em_ct cr_tuple cs_tuple T.z_tuple (am_cons (LcM.em (LcM.mk (own := [("k", 13)]) (im_rng1 (em_op br_add (em_int) (em_callI tk (ok__law_pick T) (hr.mono (by decide)) T.g__law_pick T.k__law_pick T.b__law_pick (pv 0) (am_cons (em_int) (am_nil)))) T.z_range) (blkOk_by (own := [("k", 13)]) (N := N__law_wide_term) (sc := defScope s__law_wide_term) (by decide +kernel)) (blk_tg (fun _ _ _ _ _ => pg_name (i := 13) sc__law_wide_term.nd rfl (by first | exact Or.inl rfl | exact Or.inr rfl)) (does_gN) (gin_N (by decide))) (blk_ts fun _ _ _ _ _ => ts_nil) (blk_em fun _ _ _ _ _ => em_callI takes_W0 (ok__law_wide_way T) (hr.mono (by decide)) T.g__law_wide_way T.k__law_wide_way T.b__law_wide_way (pv 0) (am_cons (em_v 3) (am_cons (em_cmp (br_eq hu) (em_v 6) (em_int) (nomark _)) (am_nil))))) rfl sc__law_wide_term.nd) (am_nil))))
      (sm_cons (sm_set (i := 10) sc__law_wide_term.nd rfl (by first | exact Or.inl rfl | exact Or.inr rfl) (em_callI tk (ok__law_wide_reach T) (hr.mono (by decide)) T.g__law_wide_reach T.k__law_wide_reach T.b__law_wide_reach (pv 0) (am_cons (em_v 2) (am_cons (LcM.em (LcM.mk (own := [("word", 14)]) (im_any (em_v 1)) (blkOk_by (own := [("word", 14)]) (N := N__law_wide_term) (sc := defScope s__law_wide_term) (by decide +kernel)) (blk_tg (fun _ _ _ _ _ => pg_name (i := 14) sc__law_wide_term.nd rfl (by first | exact Or.inl rfl | exact Or.inr rfl)) (does_gN) (gin_N (by decide))) (blk_ts fun _ _ _ _ _ => ts_one (tm_cmp (br_hasNot hu) (em_v 14) (em_v 2) rfl)) (blk_em fun _ _ _ _ _ => em_v 14)) rfl sc__law_wide_term.nd) (am_nil)))))
      (sm_cons (sm_set (i := 11) sc__law_wide_term.nd rfl (by first | exact Or.inl rfl | exact Or.inr rfl) (em_ife (tm_tru (em_callI tk (ok__law_one_in T) (hr.mono (by decide)) T.g__law_one_in T.k__law_one_in T.b__law_one_in (pv 0) (am_cons (em_int) (am_nil)))) (em_callI tk (ok__law_wide_way T) (hr.mono (by decide)) T.g__law_wide_way T.k__law_wide_way T.b__law_wide_way (pv 0) (am_cons (em_v 3) (am_cons (em_cmp (br_eq hu) (em_v 6) (em_int) (nomark _)) (am_nil)))) (em_non)))
      (sm_cons (sm_set (i := 12) sc__law_wide_term.nd rfl (by first | exact Or.inl rfl | exact Or.inr rfl) (em_ife (tm_w (wm_and (tm_tru (em_v 5)) (wm_and1 (tm_tru (em_callI tk (ok__law_one_in T) (hr.mono (by decide)) T.g__law_one_in T.k__law_one_in T.b__law_one_in (pv 0) (am_cons (em_int) (am_nil))))))) (em_ix hu (em_callI tk (ok__law_one_of T) (hr.mono (by decide)) T.g__law_one_of T.k__law_one_of T.b__law_one_of (pv 0) (am_cons (em_v 5) (am_nil))) (em_int)) (em_non)))
      (sm_one (sm_ret (em_tup (am_cons (em_v 4) (am_cons (em_v 8) (am_cons (em_v 9) (am_cons (em_v 10) (am_cons (em_v 11) (am_cons (em_v 12) (am_nil))))))))))))))))))
def m__law_free_way : M Fl := mSeq (mSet 2 (mLc [3] (mRng1 (mCallI 0 f__law_pick [mK (.int 7)])) (gN 3) mYes (mCallI 0 f__law_one_of [mBin pAdd (mCB pList [mVar 1]) (mLst [mK (.str "_")])]))) (mRet (mCB pTuple [mLc [4] (mIterA (mVar 2)) (gN 4) mYes (mIfE (mAnd (mTest (mBin pNe (mVar 4) (mK (.str "_")))) (mTru (mCallI 0 f__law_one_in [mK (.int 6)]))) (mBin pAdd (mK (.str "*")) (mVar 4)) (mVar 4))]))
def f__law_free_way : PV → List PV → Option (PV × RO) := runI N__law_free_way.length m__law_free_way
theorem ok__law_free_way (T : Txt K mg cl fa fd dT11) : FnOk P w K mg base (L2N.CX P w) 3 (fa 60) (fd 60) ["source", "words"] (spI K cl 2 f__law_free_way) :=
  fnI (k := 2) (m := m__law_free_way) T.F__law_free_way sc__law_free_way (fun cdv A outer s H E hr => by
    have hu := hu64 hr
    have tk : L2N.Takes (cxOf (L2N.CX P w) P w K mg base N__law_free_way "_law_free_way" (defScope s__law_free_way) (fa 60) cdv A outer s H E) (fun c d _ H' => E c d H') := L2N.takes_of rfl rfl rfl rfl
    exact (sm_cons (LcM.set (i := 2) (LcM.mk (own := [("k", 3)]) (im_rng1 (em_callI tk (ok__law_pick T) (hr.mono (by decide)) T.g__law_pick T.k__law_pick T.b__law_pick (pv 0) (am_cons (em_int) (am_nil))) T.z_range) (blkOk_by (own := [("k", 3)]) (N := N__law_free_way) (sc := defScope s__law_free_way) (by decide +kernel)) (blk_tg (fun _ _ _ _ _ => pg_name (i := 3) sc__law_free_way.nd rfl (by first | exact Or.inl rfl | exact Or.inr rfl)) (does_gN) (gin_N (by decide))) (blk_ts fun _ _ _ _ _ => ts_nil) (blk_em fun _ _ _ _ _ => em_callI takes_W0 (ok__law_one_of T) (hr.mono (by decide)) T.g__law_one_of T.k__law_one_of T.b__law_one_of (pv 0) (am_cons (em_op br_add (em_fm (fm_ct cr_list cs_list T.z_list (am_cons (em_v 1) (am_nil)))) (em_lst (am_cons (em_str) (am_nil)))) (am_nil)))) rfl sc__law_free_way.nd rfl rfl (sw_true rfl rfl rfl (by decide +kernel)))
      (sm_one (sm_ret (em_ct cr_tuple cs_tuple T.z_tuple (am_cons (LcM.em (LcM.mk (own := [("item", 4)]) (im_any (em_v 2)) (blkOk_by (own := [("item", 4)]) (N := N__law_free_way) (sc := defScope s__law_free_way) (by decide +kernel)) (blk_tg (fun _ _ _ _ _ => pg_name (i := 4) sc__law_free_way.nd rfl (by first | exact Or.inl rfl | exact Or.inr rfl)) (does_gN) (gin_N (by decide))) (blk_ts fun _ _ _ _ _ => ts_nil) (blk_em fun _ _ _ _ _ => em_ife (tm_w (wm_and (tm_cmp (br_ne hu) (em_v 4) (em_str) (nomark _)) (wm_and1 (tm_tru (em_callI takes_W0 (ok__law_one_in T) (hr.mono (by decide)) T.g__law_one_in T.k__law_one_in T.b__law_one_in (pv 0) (am_cons (em_int) (am_nil))))))) (em_op br_add (em_str) (em_v 4)) (em_v 4))) rfl sc__law_free_way.nd) (am_nil)))))))
def m__law_wide_change : M Fl := mSeq (mDrop (mCallI 0 f__law_next [])) (mSeq (mSet 2 (mCallI 0 f__law_pick [mK (.int 9)])) (mSeq (mSet 3 (mCallI 0 f__law_word [mK (.int 8)])) (mSeq (mIf (mTest (mBin pLt (mVar 2) (mK (.int 2)))) (mSeq (mSet 4 (mTup [mTup [mK (.str "turn"), mTup []], mTup [mVar 3, mTup []]])) (mRet (mTup [mK (.str "add"), mCallI 0 f__law_wide_term [mVar 1, mSl (mVar 1) (mNoB) (mBd (mK (.int 2))), mVar 1, mVar 3, mVar 4]]))) (mNx)) (mSeq (mIf (mOr (mTest (mBin pEq (mVar 2) (mK (.int 2)))) (mTest (mBin pEq (mVar 2) (mK (.int 3))))) (mRet (mTup [mBin pIx (mLst [mK (.str "drop"), mK (.str "rise")]) (mBin pSub (mVar 2) (mK (.int 2))), mVar 3])) (mNx)) (mSeq (mIf (mTest (mBin pEq (mVar 2) (mK (.int 4)))) (mSeq (mSet 5 (mLc [6] (mRng1 (mBin pAdd (mK (.int 1)) (mCallI 0 f__law_pick [mK (.int 3)]))) (gN 6) mYes (mCallI 0 f__law_free_way [mVar 1]))) (mRet (mTup [mK (.str "ways"), mVar 3, mCB pTuple [mVar 5]]))) (mNx)) (mSeq (mIf (mTest (mBin pEq (mVar 2) (mK (.int 5)))) (mRet (mTup [mK (.str "first"), mVar 3, mIfE (mTru (mCallI 0 f__law_one_in [mK (.int 3)])) (mK .non) (mCallI 0 f__law_free_way [mVar 1])])) (mNx)) (mSeq (mIf (mTest (mBin pLt (mVar 2) (mK (.int 8)))) (mRet (mTup [mK (.str "scope"), mVar 3, mCallI 0 f__law_wide_reach [mVar 1, mVar 1]])) (mNx)) (mRet (mTup [mK (.str "say"), mVar 3, mCallI 0 f__law_one_of [mBin pAdd (mCB pList [mVar 1]) (mLst [mVar 3])]])))))))))
def f__law_wide_change : PV → List PV → Option (PV × RO) := runI N__law_wide_change.length m__law_wide_change
theorem ok__law_wide_change (T : Txt K mg cl fa fd dT11) : FnOk P w K mg base (L2N.CX P w) 5 (fa 61) (fd 61) ["source", "words"] (spI K cl 2 f__law_wide_change) :=
  fnI (k := 4) (m := m__law_wide_change) T.F__law_wide_change sc__law_wide_change (fun cdv A outer s H E hr => by
    have hu := hu64 hr
    have tk : L2N.Takes (cxOf (L2N.CX P w) P w K mg base N__law_wide_change "_law_wide_change" (defScope s__law_wide_change) (fa 61) cdv A outer s H E) (fun c d _ H' => E c d H') := L2N.takes_of rfl rfl rfl rfl
    exact (sm_cons (sm_expr (em_callI tk (ok__law_next T) (hr.mono (by decide)) T.g__law_next T.k__law_next T.b__law_next (pv 0) (am_nil)))
      (sm_cons (sm_set (i := 2) sc__law_wide_change.nd rfl (by first | exact Or.inl rfl | exact Or.inr rfl) (em_callI tk (ok__law_pick T) (hr.mono (by decide)) T.g__law_pick T.k__law_pick T.b__law_pick (pv 0) (am_cons (em_int) (am_nil))))
      (sm_cons (sm_set (i := 3) sc__law_wide_change.nd rfl (by first | exact Or.inl rfl | exact Or.inr rfl) (em_callI tk (ok__law_word T) (hr.mono (by decide)) T.g__law_word T.k__law_word T.b__law_word (pv 0) (am_cons (em_int) (am_nil))))
      (sm_cons (sm_if (tm_cmp (br_lt hu) (em_v 2) (em_int) (nomark _)) (sm_cons (sm_set (i := 4) sc__law_wide_change.nd rfl (by first | exact Or.inl rfl | exact Or.inr rfl) (em_tup (am_cons (em_tup (am_cons (em_str) (am_cons (em_tup (am_nil)) (am_nil)))) (am_cons (em_tup (am_cons (em_v 3) (am_cons (em_tup (am_nil)) (am_nil)))) (am_nil)))))
      (sm_one (sm_ret (em_tup (am_cons (em_str) (am_cons (em_callI tk (ok__law_wide_term T) (hr.mono (by decide)) T.g__law_wide_term T.k__law_wide_term T.b__law_wide_term (pv 0) (am_cons (em_v 1) (am_cons (em_sl (em_v 1) (om_none) (om_some (em_int))) (am_cons (em_v 1) (am_cons (em_v 3) (am_cons (em_v 4) (am_nil))))))) (am_nil))))))) (sm_nil))
      (sm_cons (sm_if (tm_w (wm_or (tm_cmp (br_eq hu) (em_v 2) (em_int) (nomark _)) (wm_or1 (tm_cmp (br_eq hu) (em_v 2) (em_int) (nomark _))))) (sm_one (sm_ret (em_tup (am_cons (em_ix hu (em_lst (am_cons (em_str) (am_cons (em_str) (am_nil)))) (em_op br_sub (em_v 2) (em_int))) (am_cons (em_v 3) (am_nil)))))) (sm_nil))
      (sm_cons (sm_if (tm_cmp (br_eq hu) (em_v 2) (em_int) (nomark _)) (sm_cons (LcM.set (i := 5) (LcM.mk (own := [("k", 6)]) (im_rng1 (em_op br_add (em_int) (em_callI tk (ok__law_pick T) (hr.mono (by decide)) T.g__law_pick T.k__law_pick T.b__law_pick (pv 0) (am_cons (em_int) (am_nil)))) T.z_range) (blkOk_by (own := [("k", 6)]) (N := N__law_wide_change) (sc := defScope s__law_wide_change) (by decide +kernel)) (blk_tg (fun _ _ _ _ _ => pg_name (i := 6) sc__law_wide_change.nd rfl (by first | exact Or.inl rfl | exact Or.inr rfl)) (does_gN) (gin_N (by decide))) (blk_ts fun _ _ _ _ _ => ts_nil) (blk_em fun _ _ _ _ _ => em_callI takes_W0 (ok__law_free_way T) (hr.mono (by decide)) T.g__law_free_way T.k__law_free_way T.b__law_free_way (pv 0) (am_cons (em_v 1) (am_nil)))) rfl sc__law_wide_change.nd rfl rfl (sw_true rfl rfl rfl (by decide +kernel)))
      (sm_one (sm_ret (em_tup (am_cons (em_str) (am_cons (em_v 3) (am_cons (em_ct cr_tuple cs_tuple T.z_tuple (am_cons (em_v 5) (am_nil))) (am_nil)))))))) (sm_nil))
      (sm_cons (sm_if (tm_cmp (br_eq hu) (em_v 2) (em_int) (nomark _)) (sm_one (sm_ret (em_tup (am_cons (em_str) (am_cons (em_v 3) (am_cons (em_ife (tm_tru (em_callI tk (ok__law_one_in T) (hr.mono (by decide)) T.g__law_one_in T.k__law_one_in T.b__law_one_in (pv 0) (am_cons (em_int) (am_nil)))) (em_non) (em_callI tk (ok__law_free_way T) (hr.mono (by decide)) T.g__law_free_way T.k__law_free_way T.b__law_free_way (pv 0) (am_cons (em_v 1) (am_nil)))) (am_nil))))))) (sm_nil))
      (sm_cons (sm_if (tm_cmp (br_lt hu) (em_v 2) (em_int) (nomark _)) (sm_one (sm_ret (em_tup (am_cons (em_str) (am_cons (em_v 3) (am_cons (em_callI tk (ok__law_wide_reach T) (hr.mono (by decide)) T.g__law_wide_reach T.k__law_wide_reach T.b__law_wide_reach (pv 0) (am_cons (em_v 1) (am_cons (em_v 1) (am_nil)))) (am_nil))))))) (sm_nil))
      (sm_one (sm_ret (em_tup (am_cons (em_str) (am_cons (em_v 3) (am_cons (em_callI tk (ok__law_one_of T) (hr.mono (by decide)) T.g__law_one_of T.k__law_one_of T.b__law_one_of (pv 0) (am_cons (em_op br_add (em_fm (fm_ct cr_list cs_list T.z_list (am_cons (em_v 1) (am_nil)))) (em_lst (am_cons (em_v 3) (am_nil)))) (am_nil))) (am_nil))))))))))))))))
def m__law_line : M Fl := mRet (mBinS pJoin (mK (.str " ")) (mBin pAdd (mLst [mVar 0]) (mCB pList [mVar 1])))
def f__law_line : List PV → Option RO := runP N__law_line.length m__law_line
theorem ok__law_line (T : Txt K mg cl fa fd dT11) : FnOk P w K mg base (L2N.CX P w) 1 (fa 62) (fd 62) ["word", "row"] (spP K cl 2 f__law_line) :=
  fnP (k := 0) (m := m__law_line) T.F__law_line sc__law_line (fun cdv A outer s H E hr => by
    have hu := hu64 hr
    have tk : L2N.Takes (cxOf (L2N.CX P w) P w K mg base N__law_line "_law_line" (defScope s__law_line) (fa 62) cdv A outer s H E) (fun c d _ H' => E c d H') := L2N.takes_of rfl rfl rfl rfl
    exact (sm_one (sm_ret (em_join (em_str) (em_op br_add (em_lst (am_cons (em_v 0) (am_nil))) (em_fm (fm_ct cr_list cs_list T.z_list (am_cons (em_v 1) (am_nil)))))))))
def m__law_term_lines : M Fl := mSeq (mSetO 1 (mBin pCat (mLst [mCall f__law_line [mK (.str "term"), mBin pAdd (mTup [mIxV 0 (mK (.int 0))]) (mIxV 0 (mK (.int 1)))]]) (mLc [2] (mIterA (mIxV 0 (mK (.int 2)))) (gN 2) mYes (mCall f__law_line [mK (.str "way"), mVar 2])))) (mSeq (mIf (mTest (mIsN true (mIxV 0 (mK (.int 4))))) (mApp 1 (mCall f__law_line [mK (.str "first"), mIxV 0 (mK (.int 4))])) (mNx)) (mSeq (mIf (mTest (mBin pNe (mIxV 0 (mK (.int 3))) (mTup [mK (.str "work")]))) (mApp 1 (mCall f__law_line [mK (.str "scope"), mIxV 0 (mK (.int 3))])) (mNx)) (mSeq (mIf (mTest (mIsN true (mIxV 0 (mK (.int 5))))) (mApp 1 (mCall f__law_line [mK (.str "turns"), mTup [mIxV 0 (mK (.int 5))]])) (mNx)) (mRet (mVar 1)))))
def f__law_term_lines : List PV → Option RO := runP N__law_term_lines.length m__law_term_lines
theorem ok__law_term_lines (T : Txt K mg cl fa fd dT11) : FnOk P w K mg base (L2N.CX P w) 2 (fa 63) (fd 63) ["term"] (spP K cl 1 f__law_term_lines) :=
  fnP (k := 1) (m := m__law_term_lines) T.F__law_term_lines sc__law_term_lines (fun cdv A outer s H E hr => by
    have hu := hu64 hr
    have tk : L2N.Takes (cxOf (L2N.CX P w) P w K mg base N__law_term_lines "_law_term_lines" (defScope s__law_term_lines) (fa 63) cdv A outer s H E) (fun c d _ H' => E c d H') := L2N.takes_of rfl rfl rfl rfl
    exact (sm_cons (sm_setO (i := 1) sc__law_term_lines.nd rfl (by first | exact Or.inl rfl | exact Or.inr rfl) (fm_cat (em_lst (am_cons (em_call tk (ok__law_line T) (hr.mono (by first | decide | omega)) T.g__law_line T.k__law_line T.b__law_line (am_cons (em_str) (am_cons (em_op br_add (em_tup (am_cons (em_ixV hu (pv 0) (em_int)) (am_nil))) (em_ixV hu (pv 0) (em_int))) (am_nil)))) (am_nil))) (LcM.em (LcM.mk (own := [("way", 2)]) (im_any (em_ixV hu (pv 0) (em_int))) (blkOk_by (own := [("way", 2)]) (N := N__law_term_lines) (sc := defScope s__law_term_lines) (by decide +kernel)) (blk_tg (fun _ _ _ _ _ => pg_name (i := 2) sc__law_term_lines.nd rfl (by first | exact Or.inl rfl | exact Or.inr rfl)) (does_gN) (gin_N (by decide))) (blk_ts fun _ _ _ _ _ => ts_nil) (blk_em fun _ _ _ _ _ => em_call takes_W0 (ok__law_line T) (hr.mono (by first | decide | omega)) T.g__law_line T.k__law_line T.b__law_line (am_cons (em_str) (am_cons (em_v 2) (am_nil))))) rfl sc__law_term_lines.nd)))
      (sm_cons (sm_if (tm_notN (em_ixV hu (pv 0) (em_int))) (sm_one (sm_app (pv 1) (em_call tk (ok__law_line T) (hr.mono (by first | decide | omega)) T.g__law_line T.k__law_line T.b__law_line (am_cons (em_str) (am_cons (em_ixV hu (pv 0) (em_int)) (am_nil)))))) (sm_nil))
      (sm_cons (sm_if (tm_cmp (br_ne hu) (em_ixV hu (pv 0) (em_int)) (em_tup (am_cons (em_str) (am_nil))) (nomark _)) (sm_one (sm_app (pv 1) (em_call tk (ok__law_line T) (hr.mono (by first | decide | omega)) T.g__law_line T.k__law_line T.b__law_line (am_cons (em_str) (am_cons (em_ixV hu (pv 0) (em_int)) (am_nil)))))) (sm_nil))
      (sm_cons (sm_if (tm_notN (em_ixV hu (pv 0) (em_int))) (sm_one (sm_app (pv 1) (em_call tk (ok__law_line T) (hr.mono (by first | decide | omega)) T.g__law_line T.k__law_line T.b__law_line (am_cons (em_str) (am_cons (em_tup (am_cons (em_ixV hu (pv 0) (em_int)) (am_nil))) (am_nil)))))) (sm_nil))
      (sm_one (sm_ret (em_v 1))))))))
def m__law_entry_lines : M Fl := mSeq (mIf (mTest (mBin pEq (mIxV 0 (mK (.int 0))) (mK (.str "add")))) (mRet (mBin pAdd (mBin pAdd (mLst [mK (.str "add")]) (mCall f__law_term_lines [mIxV 0 (mK (.int 1))])) (mLst [mK (.str "end")]))) (mNx)) (mSeq (mIf (mTest (mBin pEq (mIxV 0 (mK (.int 0))) (mK (.str "ways")))) (mSeq (mSet 1 (mLc [2] (mIterA (mIxV 0 (mK (.int 2)))) (gN 2) mYes (mCall f__law_line [mK (.str "way"), mVar 2]))) (mRet (mBin pAdd (mBin pAdd (mLst [mCall f__law_line [mK (.str "ways"), mSl (mVar 0) (mBd (mK (.int 1))) (mBd (mK (.int 2)))]]) (mVar 1)) (mLst [mK (.str "end")])))) (mNx)) (mSeq (mIf (mTest (mBin pEq (mIxV 0 (mK (.int 0))) (mK (.str "first")))) (mSeq (mSet 1 (mIfE (mTest (mIsN false (mIxV 0 (mK (.int 2))))) (mLst []) (mLst [mCall f__law_line [mK (.str "way"), mIxV 0 (mK (.int 2))]]))) (mRet (mBin pAdd (mBin pAdd (mLst [mCall f__law_line [mK (.str "first"), mSl (mVar 0) (mBd (mK (.int 1))) (mBd (mK (.int 2)))]]) (mVar 1)) (mLst [mK (.str "end")])))) (mNx)) (mSeq (mIf (mTest (mBin pEq (mIxV 0 (mK (.int 0))) (mK (.str "scope")))) (mRet (mLst [mCall f__law_line [mK (.str "scope"), mBin pAdd (mSl (mVar 0) (mBd (mK (.int 1))) (mBd (mK (.int 2)))) (mIxV 0 (mK (.int 2)))]])) (mNx)) (mRet (mLst [mCall f__law_line [mIxV 0 (mK (.int 0)), mSl (mVar 0) (mBd (mK (.int 1))) (mNoB)]])))))
def f__law_entry_lines : List PV → Option RO := runP N__law_entry_lines.length m__law_entry_lines
theorem ok__law_entry_lines (T : Txt K mg cl fa fd dT11) : FnOk P w K mg base (L2N.CX P w) 3 (fa 64) (fd 64) ["change"] (spP K cl 1 f__law_entry_lines) :=
  fnP (k := 2) (m := m__law_entry_lines) T.F__law_entry_lines sc__law_entry_lines (fun cdv A outer s H E hr => by
    have hu := hu64 hr
    have tk : L2N.Takes (cxOf (L2N.CX P w) P w K mg base N__law_entry_lines "_law_entry_lines" (defScope s__law_entry_lines) (fa 64) cdv A outer s H E) (fun c d _ H' => E c d H') := L2N.takes_of rfl rfl rfl rfl
    exact (sm_cons (sm_if (tm_cmp (br_eq hu) (em_ixV hu (pv 0) (em_int)) (em_str) (nomark _)) (sm_one (sm_ret (em_op br_add (em_op br_add (em_lst (am_cons (em_str) (am_nil))) (em_call tk (ok__law_term_lines T) (hr.mono (by first | decide | omega)) T.g__law_term_lines T.k__law_term_lines T.b__law_term_lines (am_cons (em_ixV hu (pv 0) (em_int)) (am_nil)))) (em_lst (am_cons (em_str) (am_nil)))))) (sm_nil))
      (sm_cons (sm_if (tm_cmp (br_eq hu) (em_ixV hu (pv 0) (em_int)) (em_str) (nomark _)) (sm_cons (LcM.set (i := 1) (LcM.mk (own := [("way", 2)]) (im_any (em_ixV hu (pv 0) (em_int))) (blkOk_by (own := [("way", 2)]) (N := N__law_entry_lines) (sc := defScope s__law_entry_lines) (by decide +kernel)) (blk_tg (fun _ _ _ _ _ => pg_name (i := 2) sc__law_entry_lines.nd rfl (by first | exact Or.inl rfl | exact Or.inr rfl)) (does_gN) (gin_N (by decide))) (blk_ts fun _ _ _ _ _ => ts_nil) (blk_em fun _ _ _ _ _ => em_call takes_W0 (ok__law_line T) (hr.mono (by first | decide | omega)) T.g__law_line T.k__law_line T.b__law_line (am_cons (em_str) (am_cons (em_v 2) (am_nil))))) rfl sc__law_entry_lines.nd rfl rfl (sw_true rfl rfl rfl (by decide +kernel)))
      (sm_one (sm_ret (em_op br_add (em_op br_add (em_lst (am_cons (em_call tk (ok__law_line T) (hr.mono (by first | decide | omega)) T.g__law_line T.k__law_line T.b__law_line (am_cons (em_str) (am_cons (em_sl (em_v 0) (om_some (em_int)) (om_some (em_int))) (am_nil)))) (am_nil))) (em_v 1)) (em_lst (am_cons (em_str) (am_nil))))))) (sm_nil))
      (sm_cons (sm_if (tm_cmp (br_eq hu) (em_ixV hu (pv 0) (em_int)) (em_str) (nomark _)) (sm_cons (sm_set (i := 1) sc__law_entry_lines.nd rfl (by first | exact Or.inl rfl | exact Or.inr rfl) (em_ife (tm_isN (em_ixV hu (pv 0) (em_int))) (em_lst (am_nil)) (em_lst (am_cons (em_call tk (ok__law_line T) (hr.mono (by first | decide | omega)) T.g__law_line T.k__law_line T.b__law_line (am_cons (em_str) (am_cons (em_ixV hu (pv 0) (em_int)) (am_nil)))) (am_nil)))))
      (sm_one (sm_ret (em_op br_add (em_op br_add (em_lst (am_cons (em_call tk (ok__law_line T) (hr.mono (by first | decide | omega)) T.g__law_line T.k__law_line T.b__law_line (am_cons (em_str) (am_cons (em_sl (em_v 0) (om_some (em_int)) (om_some (em_int))) (am_nil)))) (am_nil))) (em_v 1)) (em_lst (am_cons (em_str) (am_nil))))))) (sm_nil))
      (sm_cons (sm_if (tm_cmp (br_eq hu) (em_ixV hu (pv 0) (em_int)) (em_str) (nomark _)) (sm_one (sm_ret (em_lst (am_cons (em_call tk (ok__law_line T) (hr.mono (by first | decide | omega)) T.g__law_line T.k__law_line T.b__law_line (am_cons (em_str) (am_cons (em_op br_add (em_sl (em_v 0) (om_some (em_int)) (om_some (em_int))) (em_ixV hu (pv 0) (em_int))) (am_nil)))) (am_nil))))) (sm_nil))
      (sm_one (sm_ret (em_lst (am_cons (em_call tk (ok__law_line T) (hr.mono (by first | decide | omega)) T.g__law_line T.k__law_line T.b__law_line (am_cons (em_ixV hu (pv 0) (em_int)) (am_cons (em_sl (em_v 0) (om_some (em_int)) (om_none)) (am_nil)))) (am_nil))))))))))
def m__law_log_lines : M Fl := mSeq (mSet 1 (mLst [])) (mSeq (mFor (mIterA (mVar 0)) (gN 2) (mSet 1 (mBin pAdd (mVar 1) (mCall f__law_entry_lines [mVar 2])))) (mRet (mVar 1)))
def f__law_log_lines : List PV → Option RO := runP N__law_log_lines.length m__law_log_lines
theorem ok__law_log_lines (T : Txt K mg cl fa fd dT11) : FnOk P w K mg base (L2N.CX P w) 4 (fa 65) (fd 65) ["changes"] (spP K cl 1 f__law_log_lines) :=
  fnP (k := 3) (m := m__law_log_lines) T.F__law_log_lines sc__law_log_lines (fun cdv A outer s H E hr => by
    have hu := hu64 hr
    have tk : L2N.Takes (cxOf (L2N.CX P w) P w K mg base N__law_log_lines "_law_log_lines" (defScope s__law_log_lines) (fa 65) cdv A outer s H E) (fun c d _ H' => E c d H') := L2N.takes_of rfl rfl rfl rfl
    exact (sm_cons (sm_set (i := 1) sc__law_log_lines.nd rfl (by first | exact Or.inl rfl | exact Or.inr rfl) (em_lst (am_nil)))
      (sm_cons (sm_for (passes_of rfl) rfl (im_any (em_v 0)) (gm_of (pg_name (i := 2) sc__law_log_lines.nd rfl (by first | exact Or.inl rfl | exact Or.inr rfl)) (does_gN)) (sm_one (sm_set (i := 1) sc__law_log_lines.nd rfl (by first | exact Or.inl rfl | exact Or.inr rfl) (em_op br_add (em_v 1) (em_call tk (ok__law_entry_lines T) (hr.mono (by first | decide | omega)) T.g__law_entry_lines T.k__law_entry_lines T.b__law_entry_lines (am_cons (em_v 2) (am_nil)))))))
      (sm_one (sm_ret (em_v 1))))))
def m__law_told_term : M Fl := mRet (mTup [mFldV 0 3 "name", mFldV 0 3 "pattern", mFldV 0 3 "ways", mFldV 0 3 "scope", mFldV 0 3 "first", mFldV 0 3 "turn"])
def f__law_told_term : List PV → Option RO := runP N__law_told_term.length m__law_told_term
theorem ok__law_told_term (T : Txt K mg cl fa fd dT11) : FnOk P w K mg base (L2N.CX P w) 1 (fa 66) (fd 66) ["term"] (spP K cl 1 f__law_told_term) :=
  fnP (k := 0) (m := m__law_told_term) T.F__law_told_term sc__law_told_term (fun cdv A outer s H E hr => by
    have hu := hu64 hr
    have tk : L2N.Takes (cxOf (L2N.CX P w) P w K mg base N__law_told_term "_law_told_term" (defScope s__law_told_term) (fa 66) cdv A outer s H E) (fun c d _ H' => E c d H') := L2N.takes_of rfl rfl rfl rfl
    exact (sm_one (sm_ret (em_tup (am_cons (em_fldV (c := 3) (pv 0) T.c3 T.n3_name) (am_cons (em_fldV (c := 3) (pv 0) T.c3 T.n3_pattern) (am_cons (em_fldV (c := 3) (pv 0) T.c3 T.n3_ways) (am_cons (em_fldV (c := 3) (pv 0) T.c3 T.n3_scope) (am_cons (em_fldV (c := 3) (pv 0) T.c3 T.n3_first) (am_cons (em_fldV (c := 3) (pv 0) T.c3 T.n3_turn) (am_nil)))))))))))
def m__law_told_change : M Fl := mSeq (mIf (mAnd (mTru (mIsa (ansT (ocF 3) "tuple") (mVar 0))) (mAnd (mTest (mBin pEq (mCBV pLen 0) (mK (.int 2)))) (mTru (mIsa (ansO (ocOf 3)) (mIxV 0 (mK (.int 1))))))) (mRet (mTup [mIxV 0 (mK (.int 0)), mCall f__law_told_term [mIxV 0 (mK (.int 1))]])) (mNx)) (mRet (mVar 0))
def f__law_told_change : List PV → Option RO := runP N__law_told_change.length m__law_told_change
theorem ok__law_told_change (T : Txt K mg cl fa fd dT11) : FnOk P w K mg base (L2N.CX P w) 2 (fa 67) (fd 67) ["change"] (spP K cl 1 f__law_told_change) :=
  fnP (k := 1) (m := m__law_told_change) T.F__law_told_change sc__law_told_change (fun cdv A outer s H E hr => by
    have hu := hu64 hr
    have tk : L2N.Takes (cxOf (L2N.CX P w) P w K mg base N__law_told_change "_law_told_change" (defScope s__law_told_change) (fa 67) cdv A outer s H E) (fun c d _ H' => E c d H') := L2N.takes_of rfl rfl rfl rfl
    exact (sm_cons (sm_if (tm_w (wm_and (tm_tru (em_isa (isa_TF T.ow3 T.kt3_tuple) (.ty _) T.z_isinstance (em_v 0) (pe_bltn rfl T.z_tuple (v := .ty "tuple") (by rfl) rfl))) (wm_and (tm_cmp (br_eq hu) (em_cbV cr_lenA cs_len T.z_len (pv 0)) (em_int) (nomark _)) (wm_and1 (tm_tru (em_isa (isa_own T.ow3) (.own _) T.z_isinstance (em_ixV hu (pv 0) (em_int)) (pe_glob (v := .ref (cl 3)) (by rfl) T.g_Term rfl))))))) (sm_one (sm_ret (em_tup (am_cons (em_ixV hu (pv 0) (em_int)) (am_cons (em_call tk (ok__law_told_term T) (hr.mono (by first | decide | omega)) T.g__law_told_term T.k__law_told_term T.b__law_told_term (am_cons (em_ixV hu (pv 0) (em_int)) (am_nil))) (am_nil)))))) (sm_nil))
      (sm_one (sm_ret (em_v 0)))))
def m__law_told_changes : M Fl := mSeq (mIf (mNot (mTru (mIsa (ansT (ocF 3) "tuple") (mVar 0)))) (mRet (mK .non)) (mNx)) (mRet (mCB pTuple [mLc [1] (mIterA (mVar 0)) (gN 1) mYes (mCall f__law_told_change [mVar 1])]))
def f__law_told_changes : List PV → Option RO := runP N__law_told_changes.length m__law_told_changes
theorem ok__law_told_changes (T : Txt K mg cl fa fd dT11) : FnOk P w K mg base (L2N.CX P w) 3 (fa 68) (fd 68) ["changes"] (spP K cl 1 f__law_told_changes) :=
  fnP (k := 2) (m := m__law_told_changes) T.F__law_told_changes sc__law_told_changes (fun cdv A outer s H E hr => by
    have hu := hu64 hr
    have tk : L2N.Takes (cxOf (L2N.CX P w) P w K mg base N__law_told_changes "_law_told_changes" (defScope s__law_told_changes) (fa 68) cdv A outer s H E) (fun c d _ H' => E c d H') := L2N.takes_of rfl rfl rfl rfl
    exact (sm_cons (sm_if (tm_not (tm_tru (em_isa (isa_TF T.ow3 T.kt3_tuple) (.ty _) T.z_isinstance (em_v 0) (pe_bltn rfl T.z_tuple (v := .ty "tuple") (by rfl) rfl)))) (sm_one (sm_ret (em_non))) (sm_nil))
      (sm_one (sm_ret (em_ct cr_tuple cs_tuple T.z_tuple (am_cons (LcM.em (LcM.mk (own := [("change", 1)]) (im_any (em_v 0)) (blkOk_by (own := [("change", 1)]) (N := N__law_told_changes) (sc := defScope s__law_told_changes) (by decide +kernel)) (blk_tg (fun _ _ _ _ _ => pg_name (i := 1) sc__law_told_changes.nd rfl (by first | exact Or.inl rfl | exact Or.inr rfl)) (does_gN) (gin_N (by decide))) (blk_ts fun _ _ _ _ _ => ts_nil) (blk_em fun _ _ _ _ _ => em_call takes_W0 (ok__law_told_change T) (hr.mono (by first | decide | omega)) T.g__law_told_change T.k__law_told_change T.b__law_told_change (am_cons (em_v 1) (am_nil)))) rfl sc__law_told_changes.nd) (am_nil)))))))
def m__law_made : M Fl := mSeq (mSet 2 (mLc [3] (mIterA (mVar 0)) (gN 3) mYes (mCall f__law_change [mVar 3, mVar 1]))) (mRet (mIfE (mTest (mBin pEq (mVar 1) (mK (.int 1)))) (mVar 2) (mCB pTuple [mVar 2])))
def f__law_made : List PV → Option RO := runP N__law_made.length m__law_made
theorem ok__law_made (T : Txt K mg cl fa fd dT11) : FnOk P w K mg base (L2N.CX P w) 13 (fa 70) (fd 70) ["data", "form"] (spP K cl 2 f__law_made) :=
  fnP (k := 12) (m := m__law_made) T.F__law_made sc__law_made (fun cdv A outer s H E hr => by
    have hu := hu64 hr
    have tk : L2N.Takes (cxOf (L2N.CX P w) P w K mg base N__law_made "_law_made" (defScope s__law_made) (fa 70) cdv A outer s H E) (fun c d _ H' => E c d H') := L2N.takes_of rfl rfl rfl rfl
    exact (sm_cons (LcM.set (i := 2) (LcM.mk (own := [("change", 3)]) (im_any (em_v 0)) (blkOk_by (own := [("change", 3)]) (N := N__law_made) (sc := defScope s__law_made) (by decide +kernel)) (blk_tg (fun _ _ _ _ _ => pg_name (i := 3) sc__law_made.nd rfl (by first | exact Or.inl rfl | exact Or.inr rfl)) (does_gN) (gin_N (by decide))) (blk_ts fun _ _ _ _ _ => ts_nil) (blk_em fun _ _ _ _ _ => em_call takes_W0 (ok__law_change T) (hr.mono (by first | decide | omega)) T.g__law_change T.k__law_change T.b__law_change (am_cons (em_v 3) (am_cons (em_v 1) (am_nil))))) rfl sc__law_made.nd rfl rfl (sw_true rfl rfl rfl (by decide +kernel)))
      (sm_one (sm_ret (em_ife (tm_cmp (br_eq hu) (em_v 1) (em_int) (nomark _)) (em_v 2) (em_ct cr_tuple cs_tuple T.z_tuple (am_cons (em_v 2) (am_nil))))))))
def m_Term___eq__ : M Fl := mRet (mB (mAnd (mTest (mIsa (ansO (ocOf 3)) (mVar 1))) (mTest (mBin pEq (mCall f_keyed_term [mVar 0]) (mCall f_keyed_term [mVar 1])))))
def f_Term___eq__ : List PV → Option RO := runP N_Term___eq__.length m_Term___eq__
theorem ok_Term___eq__ (T : Txt K mg cl fa fd dT11) : FnOk P w K mg base (L2N.CX P w) 2 (fa 14) (fd 14) ["self", "other"] (spP K cl 2 f_Term___eq__) :=
  fnP (k := 1) (m := m_Term___eq__) T.F_Term___eq__ sc_Term___eq__ (fun cdv A outer s H E hr => by
    have hu := hu64 hr
    have tk : L2N.Takes (cxOf (L2N.CX P w) P w K mg base N_Term___eq__ "Term.__eq__" (defScope s_Term___eq__) (fa 14) cdv A outer s H E) (fun c d _ H' => E c d H') := L2N.takes_of rfl rfl rfl rfl
    exact (sm_one (sm_ret (em_and (em_isa (isa_own T.ow3) (.own _) T.z_isinstance (em_v 1) (pe_glob (v := .ref (cl 3)) (by rfl) T.g_Term rfl)) (em_one (em_cmp (br_eq hu) (em_call tk (ok_keyed_term T) (hr.mono (by first | decide | omega)) T.g_keyed_term T.k_keyed_term T.b_keyed_term (am_cons (em_v 0) (am_nil))) (em_call tk (ok_keyed_term T) (hr.mono (by first | decide | omega)) T.g_keyed_term T.k_keyed_term T.b_keyed_term (am_cons (em_v 1) (am_nil))) (nomark _)))))))
def m__law_there_and_back : M Fl := mSeq (mSet 3 (mCB pTuple [mCall f__law_log_lines [mVar 0]])) (mSeq (mIf (mNot (mTru (mCall f__law_same [mCall f_write_log [mVar 1], mVar 3]))) (mRet (mK (.bl false))) (mNx)) (mSeq (mSet 4 (mIfE (mTest (mBin pEq (mVar 2) (mK (.int 1)))) (mCB pList [mVar 3]) (mVar 3))) (mSeq (mSet 5 (mCall f_read_log [mVar 4])) (mSeq (mIf (mOr (mNot (mTru (mCall f__law_same [mCall f__law_told_changes [mVar 5], mVar 0]))) (mTest (mBin pNe (mCB pTuple [mVar 4]) (mVar 3)))) (mRet (mK (.bl false))) (mNx)) (mSeq (mFor (mRng1 (mCBV pLen 0)) (gN 6) (mSeq (mSet 7 (mCB pTuple [mCall f__law_entry_lines [mIxV 0 (mVar 6)]])) (mSeq (mIf (mNot (mTru (mCall f__law_same [mCall f_write_log [mLst [mIxV 1 (mVar 6)]], mVar 7]))) (mRet (mK (.bl false))) (mNx)) (mSeq (mIf (mNot (mTru (mCall f__law_same [mCall f__law_told_changes [mCall f_read_log [mVar 7]], mSl (mVar 0) (mBd (mVar 6)) (mBd (mBin pAdd (mVar 6) (mK (.int 1))))]))) (mRet (mK (.bl false))) (mNx)) (mIf (mAnd (mTest (mBin pEq (mBin pIx (mIxV 0 (mVar 6)) (mK (.int 0))) (mK (.str "add")))) (mNot (mTest (mBin (pEqO 3 (okEq 3) f_Term___eq__) (mBin pIx (mIxV 5 (mVar 6)) (mK (.int 1))) (mBin pIx (mIxV 1 (mVar 6)) (mK (.int 1))))))) (mRet (mK (.bl false))) (mNx)))))) (mRet (mCall f__law_same [mCall f_write_log [mVar 5], mVar 3])))))))
def f__law_there_and_back : List PV → Option RO := runP N__law_there_and_back.length m__law_there_and_back
theorem ok__law_there_and_back (T : Txt K mg cl fa fd dT11) : FnOk P w K mg base (L2N.CX P w) 15 (fa 69) (fd 69) ["data", "changes", "form"] (spP K cl 3 f__law_there_and_back) :=
  fnP (k := 14) (m := m__law_there_and_back) T.F__law_there_and_back sc__law_there_and_back (fun cdv A outer s H E hr => by
    have hu := hu64 hr
    have tk : L2N.Takes (cxOf (L2N.CX P w) P w K mg base N__law_there_and_back "_law_there_and_back" (defScope s__law_there_and_back) (fa 69) cdv A outer s H E) (fun c d _ H' => E c d H') := L2N.takes_of rfl rfl rfl rfl
    exact (sm_cons (sm_set (i := 3) sc__law_there_and_back.nd rfl (by first | exact Or.inl rfl | exact Or.inr rfl) (em_ct cr_tuple cs_tuple T.z_tuple (am_cons (em_call tk (ok__law_log_lines T) (hr.mono (by first | decide | omega)) T.g__law_log_lines T.k__law_log_lines T.b__law_log_lines (am_cons (em_v 0) (am_nil))) (am_nil))))
      (sm_cons (sm_if (tm_not (tm_tru (em_call tk (ok__law_same T) (hr.mono (by first | decide | omega)) T.g__law_same T.k__law_same T.b__law_same (am_cons (em_call tk (ok_write_log T) (hr.mono (by first | decide | omega)) T.g_write_log T.k_write_log T.b_write_log (am_cons (em_v 1) (am_nil))) (am_cons (em_v 3) (am_nil)))))) (sm_one (sm_ret (em_bl))) (sm_nil))
      (sm_cons (sm_set (i := 4) sc__law_there_and_back.nd rfl (by first | exact Or.inl rfl | exact Or.inr rfl) (em_ife (tm_cmp (br_eq hu) (em_v 2) (em_int) (nomark _)) (em_fm (fm_ct cr_list cs_list T.z_list (am_cons (em_v 3) (am_nil)))) (em_v 3)))
      (sm_cons (sm_set (i := 5) sc__law_there_and_back.nd rfl (by first | exact Or.inl rfl | exact Or.inr rfl) (em_call tk (ok_read_log T) (hr.mono (by first | decide | omega)) T.g_read_log T.k_read_log T.b_read_log (am_cons (em_v 4) (am_nil))))
      (sm_cons (sm_if (tm_w (wm_or (tm_not (tm_tru (em_call tk (ok__law_same T) (hr.mono (by first | decide | omega)) T.g__law_same T.k__law_same T.b__law_same (am_cons (em_call tk (ok__law_told_changes T) (hr.mono (by first | decide | omega)) T.g__law_told_changes T.k__law_told_changes T.b__law_told_changes (am_cons (em_v 5) (am_nil))) (am_cons (em_v 0) (am_nil)))))) (wm_or1 (tm_cmp (br_ne hu) (em_ct cr_tuple cs_tuple T.z_tuple (am_cons (em_v 4) (am_nil))) (em_v 3) (nomark _))))) (sm_one (sm_ret (em_bl))) (sm_nil))
      (sm_cons (sm_for (passes_of rfl) rfl (im_rng1 (em_cbV cr_lenA cs_len T.z_len (pv 0)) T.z_range) (gm_of (pg_name (i := 6) sc__law_there_and_back.nd rfl (by first | exact Or.inl rfl | exact Or.inr rfl)) (does_gN)) (sm_cons (sm_set (i := 7) sc__law_there_and_back.nd rfl (by first | exact Or.inl rfl | exact Or.inr rfl) (em_ct cr_tuple cs_tuple T.z_tuple (am_cons (em_call tk (ok__law_entry_lines T) (hr.mono (by first | decide | omega)) T.g__law_entry_lines T.k__law_entry_lines T.b__law_entry_lines (am_cons (em_ixV hu (pv 0) (em_v 6)) (am_nil))) (am_nil))))
      (sm_cons (sm_if (tm_not (tm_tru (em_call tk (ok__law_same T) (hr.mono (by first | decide | omega)) T.g__law_same T.k__law_same T.b__law_same (am_cons (em_call tk (ok_write_log T) (hr.mono (by first | decide | omega)) T.g_write_log T.k_write_log T.b_write_log (am_cons (em_lst (am_cons (em_ixV hu (pv 1) (em_v 6)) (am_nil))) (am_nil))) (am_cons (em_v 7) (am_nil)))))) (sm_one (sm_ret (em_bl))) (sm_nil))
      (sm_cons (sm_if (tm_not (tm_tru (em_call tk (ok__law_same T) (hr.mono (by first | decide | omega)) T.g__law_same T.k__law_same T.b__law_same (am_cons (em_call tk (ok__law_told_changes T) (hr.mono (by first | decide | omega)) T.g__law_told_changes T.k__law_told_changes T.b__law_told_changes (am_cons (em_call tk (ok_read_log T) (hr.mono (by first | decide | omega)) T.g_read_log T.k_read_log T.b_read_log (am_cons (em_v 7) (am_nil))) (am_nil))) (am_cons (em_sl (em_v 0) (om_some (em_v 6)) (om_some (em_op br_add (em_v 6) (em_int)))) (am_nil)))))) (sm_one (sm_ret (em_bl))) (sm_nil))
      (sm_one (sm_if (tm_w (wm_and (tm_cmp (br_eq hu) (em_ix hu (em_ixV hu (pv 0) (em_v 6)) (em_int)) (em_str) (nomark _)) (wm_and1 (tm_not (tm_cmpG (br_eqO T.me3 T.mf3 (hr.mono (by first | decide | omega)) (ok_Term___eq__ T) T.b_Term___eq__ (eq_own T.ow3)) (em_ix hu (em_ixV hu (pv 5) (em_v 6)) (em_int)) (em_ix hu (em_ixV hu (pv 1) (em_v 6)) (em_int)) (nomark _)))))) (sm_one (sm_ret (em_bl))) (sm_nil)))))))
      (sm_one (sm_ret (em_call tk (ok__law_same T) (hr.mono (by first | decide | omega)) T.g__law_same T.k__law_same T.b__law_same (am_cons (em_call tk (ok_write_log T) (hr.mono (by first | decide | omega)) T.g_write_log T.k_write_log T.b_write_log (am_cons (em_v 5) (am_nil))) (am_cons (em_v 3) (am_nil)))))))))))))
def m_law : M Fl := mSeq (mSetO 1 (mCall f__law_source [mVar 0, mK (.int 0)])) (mSeq (mDrop (mCallI 1 f__law_next [])) (mSeq (mSet 2 (mCallI 1 f__law_words [mK (.int 4), mK (.int 7), mLst []])) (mSeq (mSet 3 (mIfE (mTru (mCallI 1 f__law_one_in [mK (.int 16)])) (mK (.int 40)) (mK (.int 8)))) (mSeq (mSet 4 (mCB pTuple [mLc [9] (mRng1 (mCallI 1 f__law_pick [mVar 3])) (gN 9) mYes (mCallI 1 f__law_wide_change [mVar 2])])) (mSeq (mSet 5 (mCB pTuple [mLc [9] (mRng1 (mCallI 1 f__law_pick [mK (.int 5)])) (gN 9) mYes (mCallI 1 f__law_wide_change [mVar 2])])) (mSeq (mSet 6 (mCall f__law_made [mVar 4, mK (.int 0)])) (mSeq (mSet 7 (mCall f__law_made [mVar 5, mK (.int 1)])) (mSeq (mIf (mNot (mTru (mCall f__law_there_and_back [mVar 4, mVar 6, mK (.int 0)]))) (mRet (mK (.bl false))) (mNx)) (mSeq (mIf (mNot (mTru (mCall f__law_there_and_back [mVar 5, mVar 7, mK (.int 1)]))) (mRet (mK (.bl false))) (mNx)) (mSeq (mSet 8 (mCall f_read_log [mBin pAdd (mCall f__law_log_lines [mVar 4]) (mCall f__law_log_lines [mVar 5])])) (mSeq (mIf (mNot (mTru (mCall f__law_same [mCall f__law_told_changes [mVar 8], mBin pAdd (mVar 4) (mVar 5)]))) (mRet (mK (.bl false))) (mNx)) (mRet (mCall f__law_there_and_back [mVar 4, mCall f__law_made [mVar 4, mK (.int 1)], mK (.int 1)])))))))))))))
def f_law : List PV → Option RO := runP N_law.length m_law
theorem ok_law (T : Txt K mg cl fa fd dT11) : FnOk P w K mg base (L2N.CX P w) 16 (fa 71) (fd 71) ["script"] (spP K cl 1 f_law) :=
  fnP (k := 15) (m := m_law) T.F_law sc_law (fun cdv A outer s H E hr => by
    have hu := hu64 hr
    have tk : L2N.Takes (cxOf (L2N.CX P w) P w K mg base N_law "law" (defScope s_law) (fa 71) cdv A outer s H E) (fun c d _ H' => E c d H') := L2N.takes_of rfl rfl rfl rfl
    exact (sm_cons (sm_setO (i := 1) sc_law.nd rfl (by first | exact Or.inl rfl | exact Or.inr rfl) (fm_call tk (ok__law_source T) (hr.mono (by first | decide | omega)) T.g__law_source T.k__law_source T.b__law_source (am_cons (em_v 0) (am_cons (em_int) (am_nil)))))
      (sm_cons (sm_expr (em_callI tk (ok__law_next T) (hr.mono (by decide)) T.g__law_next T.k__law_next T.b__law_next (pv 1) (am_nil)))
      (sm_cons (sm_set (i := 2) sc_law.nd rfl (by first | exact Or.inl rfl | exact Or.inr rfl) (em_callI tk (ok__law_words T) (hr.mono (by decide)) T.g__law_words T.k__law_words T.b__law_words (pv 1) (am_cons (em_int) (am_cons (em_int) (am_cons (em_lst (am_nil)) (am_nil))))))
      (sm_cons (sm_set (i := 3) sc_law.nd rfl (by first | exact Or.inl rfl | exact Or.inr rfl) (em_ife (tm_tru (em_callI tk (ok__law_one_in T) (hr.mono (by decide)) T.g__law_one_in T.k__law_one_in T.b__law_one_in (pv 1) (am_cons (em_int) (am_nil)))) (em_int) (em_int)))
      (sm_cons (sm_set (i := 4) sc_law.nd rfl (by first | exact Or.inl rfl | exact Or.inr rfl) (em_ct cr_tuple cs_tuple T.z_tuple (am_cons (LcM.em (LcM.mk (own := [("k", 9)]) (im_rng1 (em_callI tk (ok__law_pick T) (hr.mono (by decide)) T.g__law_pick T.k__law_pick T.b__law_pick (pv 1) (am_cons (em_v 3) (am_nil))) T.z_range) (blkOk_by (own := [("k", 9)]) (N := N_law) (sc := defScope s_law) (by decide +kernel)) (blk_tg (fun _ _ _ _ _ => pg_name (i := 9) sc_law.nd rfl (by first | exact Or.inl rfl | exact Or.inr rfl)) (does_gN) (gin_N (by decide))) (blk_ts fun _ _ _ _ _ => ts_nil) (blk_em fun _ _ _ _ _ => em_callI takes_W0 (ok__law_wide_change T) (hr.mono (by decide)) T.g__law_wide_change T.k__law_wide_change T.b__law_wide_change (pv 1) (am_cons (em_v 2) (am_nil)))) rfl sc_law.nd) (am_nil))))
      (sm_cons (sm_set (i := 5) sc_law.nd rfl (by first | exact Or.inl rfl | exact Or.inr rfl) (em_ct cr_tuple cs_tuple T.z_tuple (am_cons (LcM.em (LcM.mk (own := [("k", 9)]) (im_rng1 (em_callI tk (ok__law_pick T) (hr.mono (by decide)) T.g__law_pick T.k__law_pick T.b__law_pick (pv 1) (am_cons (em_int) (am_nil))) T.z_range) (blkOk_by (own := [("k", 9)]) (N := N_law) (sc := defScope s_law) (by decide +kernel)) (blk_tg (fun _ _ _ _ _ => pg_name (i := 9) sc_law.nd rfl (by first | exact Or.inl rfl | exact Or.inr rfl)) (does_gN) (gin_N (by decide))) (blk_ts fun _ _ _ _ _ => ts_nil) (blk_em fun _ _ _ _ _ => em_callI takes_W0 (ok__law_wide_change T) (hr.mono (by decide)) T.g__law_wide_change T.k__law_wide_change T.b__law_wide_change (pv 1) (am_cons (em_v 2) (am_nil)))) rfl sc_law.nd) (am_nil))))
      (sm_cons (sm_set (i := 6) sc_law.nd rfl (by first | exact Or.inl rfl | exact Or.inr rfl) (em_call tk (ok__law_made T) (hr.mono (by first | decide | omega)) T.g__law_made T.k__law_made T.b__law_made (am_cons (em_v 4) (am_cons (em_int) (am_nil)))))
      (sm_cons (sm_set (i := 7) sc_law.nd rfl (by first | exact Or.inl rfl | exact Or.inr rfl) (em_call tk (ok__law_made T) (hr.mono (by first | decide | omega)) T.g__law_made T.k__law_made T.b__law_made (am_cons (em_v 5) (am_cons (em_int) (am_nil)))))
      (sm_cons (sm_if (tm_not (tm_tru (em_call tk (ok__law_there_and_back T) (hr.mono (by first | decide | omega)) T.g__law_there_and_back T.k__law_there_and_back T.b__law_there_and_back (am_cons (em_v 4) (am_cons (em_v 6) (am_cons (em_int) (am_nil))))))) (sm_one (sm_ret (em_bl))) (sm_nil))
      (sm_cons (sm_if (tm_not (tm_tru (em_call tk (ok__law_there_and_back T) (hr.mono (by first | decide | omega)) T.g__law_there_and_back T.k__law_there_and_back T.b__law_there_and_back (am_cons (em_v 5) (am_cons (em_v 7) (am_cons (em_int) (am_nil))))))) (sm_one (sm_ret (em_bl))) (sm_nil))
      (sm_cons (sm_set (i := 8) sc_law.nd rfl (by first | exact Or.inl rfl | exact Or.inr rfl) (em_call tk (ok_read_log T) (hr.mono (by first | decide | omega)) T.g_read_log T.k_read_log T.b_read_log (am_cons (em_op br_add (em_call tk (ok__law_log_lines T) (hr.mono (by first | decide | omega)) T.g__law_log_lines T.k__law_log_lines T.b__law_log_lines (am_cons (em_v 4) (am_nil))) (em_call tk (ok__law_log_lines T) (hr.mono (by first | decide | omega)) T.g__law_log_lines T.k__law_log_lines T.b__law_log_lines (am_cons (em_v 5) (am_nil)))) (am_nil))))
      (sm_cons (sm_if (tm_not (tm_tru (em_call tk (ok__law_same T) (hr.mono (by first | decide | omega)) T.g__law_same T.k__law_same T.b__law_same (am_cons (em_call tk (ok__law_told_changes T) (hr.mono (by first | decide | omega)) T.g__law_told_changes T.k__law_told_changes T.b__law_told_changes (am_cons (em_v 8) (am_nil))) (am_cons (em_op br_add (em_v 4) (em_v 5)) (am_nil)))))) (sm_one (sm_ret (em_bl))) (sm_nil))
      (sm_one (sm_ret (em_call tk (ok__law_there_and_back T) (hr.mono (by first | decide | omega)) T.g__law_there_and_back T.k__law_there_and_back T.b__law_there_and_back (am_cons (em_v 4) (am_cons (em_call tk (ok__law_made T) (hr.mono (by first | decide | omega)) T.g__law_made T.k__law_made T.b__law_made (am_cons (em_v 4) (am_cons (em_int) (am_nil)))) (am_cons (em_int) (am_nil))))))))))))))))))))
end
end A08
set_option Elab.async false
set_option linter.all false
set_option maxRecDepth 100000
set_option maxHeartbeats 4000000
namespace Kp
open PySem L2

/-! ### what a computation answers, step by step -/
def wq {α : Type} (m : M α) (S : Sto) (P : α → Sto → Prop) : Prop := ∃ x S', m S = some (.ok x S') ∧ P x S'
section
variable {α β : Type} {S : Sto}
theorem wq_mono {m : M α} {P Q : α → Sto → Prop} (h : wq m S P) (k : ∀ x S', P x S' → Q x S') : wq m S Q := let ⟨x, S', e, p⟩ := h; ⟨x, S', e, k _ _ p⟩
@[simp] theorem wq_ret {x : α} {P : α → Sto → Prop} : wq (ret x) S P ↔ P x S := by
  constructor
  · rintro ⟨y, S', e, p⟩
    cases e
    exact p
  · exact fun p => ⟨x, S, rfl, p⟩
theorem wq_bnd {m : M α} {k : α → M β} {P : β → Sto → Prop} : wq (bnd m k) S P ↔ wq m S fun x S1 => wq (k x) S1 P := by
  constructor
  · rintro ⟨y, S', e, p⟩
    unfold bnd at e
    split at e
    · rename_i x S1 e1
      exact ⟨x, S1, e1, y, S', e, p⟩
    · cases e
    · cases e
  · rintro ⟨x, S1, e1, y, S', e, p⟩
    refine ⟨y, S', ?_, p⟩
    unfold bnd
    rw [e1]
    exact e
theorem wq_lift {o : Option α} {P : α → Sto → Prop} : wq (lift o) S P ↔ ∃ y, o = some y ∧ P y S := by
  constructor
  · rintro ⟨y, S', e, p⟩
    obtain ⟨z, e1, e2⟩ := lift_eq e
    cases e2
    exact ⟨y, e1, p⟩
  · rintro ⟨y, rfl, p⟩
    exact ⟨y, S, rfl, p⟩
@[simp] theorem wq_none {P : α → Sto → Prop} : wq (fun _ => none : M α) S P ↔ False := by
  constructor
  · rintro ⟨y, S', e, p⟩
    cases e
  · exact False.elim
theorem wq_ite {c : Prop} [Decidable c] {m n : M α} {P : α → Sto → Prop} : wq (if c then m else n) S P ↔ if c then wq m S P else wq n S P := by
  split <;> rfl
theorem wq_mNx {P : Fl → Sto → Prop} : wq mNx S P ↔ P .nx S := wq_ret
theorem wq_mRet {m : M PV} {P : Fl → Sto → Prop} : wq (mRet m) S P ↔ wq m S fun x S1 => P (.rt x) S1 := by
  unfold mRet
  simp only [wq_bnd, wq_ret]
theorem wq_mDrop {m : M PV} {P : Fl → Sto → Prop} : wq (mDrop m) S P ↔ wq m S fun _ S1 => P .nx S1 := by
  unfold mDrop
  simp only [wq_bnd, wq_ret]
/-- behind a first statement -/
def aft (u : M Fl) (P : Fl → Sto → Prop) : Fl → Sto → Prop
  | .nx, S => wq u S P
  | .rt y, S => P (.rt y) S
  | .bk, S => P .bk S
  | .ct, S => P .ct S
theorem aft_nx {u : M Fl} {P : Fl → Sto → Prop} : aft u P .nx S ↔ wq u S P := Iff.rfl
theorem aft_rt {u : M Fl} {P : Fl → Sto → Prop} {y : PV} : aft u P (.rt y) S ↔ P (.rt y) S := Iff.rfl
theorem aft_bk {u : M Fl} {P : Fl → Sto → Prop} : aft u P .bk S ↔ P .bk S := Iff.rfl
theorem aft_ct {u : M Fl} {P : Fl → Sto → Prop} : aft u P .ct S ↔ P .ct S := Iff.rfl
theorem wq_mSeq {m u : M Fl} {P : Fl → Sto → Prop} : wq (mSeq m u) S P ↔ wq m S (aft u P) := by
  unfold mSeq
  rw [wq_bnd]
  constructor
  · rintro ⟨x, S1, e, p⟩
    refine ⟨x, S1, e, ?_⟩
    cases x <;> first | exact p | exact (wq_ret (P := P)).mp p | (have q : wq (ret _) S1 P := p; exact wq_ret.mp q)
  · rintro ⟨x, S1, e, p⟩
    refine ⟨x, S1, e, ?_⟩
    cases x <;> first | exact p | (have q : wq (ret _) S1 P := wq_ret.mpr p; exact q)
theorem wq_mIf {c : M Bool} {m n : M Fl} {P : Fl → Sto → Prop} : wq (mIf c m n) S P ↔ wq c S fun b S1 => (b = true → wq m S1 P) ∧ (b = false → wq n S1 P) := by
  unfold mIf
  rw [wq_bnd]
  have e : (fun (x : Bool) S1 => wq (if x = true then m else n) S1 P) = fun b S1 => (b = true → wq m S1 P) ∧ (b = false → wq n S1 P) := by
    funext b S1
    cases b <;> simp
  rw [e]
theorem wq_mIfE {c : M Bool} {m n : M PV} {P : PV → Sto → Prop} : wq (mIfE c m n) S P ↔ wq c S fun b S1 => (b = true → wq m S1 P) ∧ (b = false → wq n S1 P) := by
  unfold mIfE
  rw [wq_bnd]
  have e : (fun (x : Bool) S1 => wq (if x = true then m else n) S1 P) = fun b S1 => (b = true → wq m S1 P) ∧ (b = false → wq n S1 P) := by
    funext b S1
    cases b <;> simp
  rw [e]
theorem wq_mK {x : PV} {P : PV → Sto → Prop} : wq (mK x) S P ↔ P x S := wq_ret
theorem wq_mBin {g : PV → PV → Option PV} {ma mb : M PV} {P : PV → Sto → Prop} : wq (mBin g ma mb) S P ↔ wq ma S fun x S1 => wq mb S1 fun y S2 => ∃ z, g x y = some z ∧ P z S2 := by
  unfold mBin
  simp only [wq_bnd, wq_lift]
theorem wq_mTest {m : M PV} {P : Bool → Sto → Prop} : wq (mTest m) S P ↔ wq m S fun x S1 => ∃ b, x = .bl b ∧ P b S1 := by
  unfold mTest
  rw [wq_bnd]
  have e : (fun x S1 => wq (asB x) S1 P) = fun x S1 => ∃ b, x = .bl b ∧ P b S1 := by
    funext x S1
    cases x <;> simp [asB]
  rw [e]
theorem wq_mTru {m : M PV} {P : Bool → Sto → Prop} : wq (mTru m) S P ↔ wq m S fun x S1 => ∃ b, truP x = some b ∧ P b S1 := by
  unfold mTru
  simp only [wq_bnd, wq_lift]
theorem wq_mNot {m : M Bool} {P : Bool → Sto → Prop} : wq (mNot m) S P ↔ wq m S fun b S1 => P (!b) S1 := by
  unfold mNot
  simp only [wq_bnd, wq_ret]
theorem wq_mB {m : M Bool} {P : PV → Sto → Prop} : wq (mB m) S P ↔ wq m S fun b S1 => P (.bl b) S1 := by
  unfold mB
  simp only [wq_bnd, wq_ret]
theorem wq_mAnd {m n : M Bool} {P : Bool → Sto → Prop} : wq (mAnd m n) S P ↔ wq m S fun b S1 => (b = true → wq n S1 P) ∧ (b = false → P false S1) := by
  unfold mAnd
  rw [wq_bnd]
  have e : (fun (b : Bool) S1 => wq (if b = true then n else ret false) S1 P) = fun b S1 => (b = true → wq n S1 P) ∧ (b = false → P false S1) := by
    funext b S1
    cases b <;> simp
  rw [e]
theorem wq_mOr {m n : M Bool} {P : Bool → Sto → Prop} : wq (mOr m n) S P ↔ wq m S fun b S1 => (b = true → P true S1) ∧ (b = false → wq n S1 P) := by
  unfold mOr
  rw [wq_bnd]
  have e : (fun (b : Bool) S1 => wq (if b = true then ret true else n) S1 P) = fun b S1 => (b = true → P true S1) ∧ (b = false → wq n S1 P) := by
    funext b S1
    cases b <;> simp
  rw [e]
theorem wq_mArgs_nil {P : List PV → Sto → Prop} : wq (mArgs []) S P ↔ P [] S := wq_ret
theorem wq_mArgs_cons {m : M PV} {ms : List (M PV)} {P : List PV → Sto → Prop} : wq (mArgs (m :: ms)) S P ↔ wq m S fun x S1 => wq (mArgs ms) S1 fun xs S2 => P (x :: xs) S2 := by
  show wq (bnd m fun x => bnd (mArgs ms) fun xs => ret (x :: xs)) S P ↔ _
  simp only [wq_bnd, wq_ret]
theorem wq_mTup {ms : List (M PV)} {P : PV → Sto → Prop} : wq (mTup ms) S P ↔ wq (mArgs ms) S fun xs S1 => P (.tup xs) S1 := by
  unfold mTup
  simp only [wq_bnd, wq_ret]
theorem wq_mLst {ms : List (M PV)} {P : PV → Sto → Prop} : wq (mLst ms) S P ↔ wq (mArgs ms) S fun xs S1 => P (.lst xs) S1 := by
  unfold mLst
  simp only [wq_bnd, wq_ret]
theorem wq_mCB {g : List PV → Option PV} {ms : List (M PV)} {P : PV → Sto → Prop} : wq (mCB g ms) S P ↔ wq (mArgs ms) S fun xs S1 => ∃ z, g xs = some z ∧ P z S1 := by
  unfold mCB
  simp only [wq_bnd, wq_lift]
theorem wq_mUn {g : PV → Option PV} {m : M PV} {P : PV → Sto → Prop} : wq (mUn g m) S P ↔ wq m S fun x S1 => ∃ z, g x = some z ∧ P z S1 := by
  unfold mUn
  simp only [wq_bnd, wq_lift]
theorem wq_mLenO {c : Nat} {f : List PV → Option RO} {m : M PV} {P : PV → Sto → Prop} : wq (mLenO c f m) S P ↔ wq m S fun x S1 => ∃ z, pLenO c f x = some z ∧ P z S1 := wq_mUn
theorem wq_mIsa {ans : PV → Option Bool} {m : M PV} {P : PV → Sto → Prop} : wq (mIsa ans m) S P ↔ wq m S fun x S1 => ∃ b, ans x = some b ∧ P (.bl b) S1 := by
  unfold mIsa
  simp only [wq_bnd, wq_lift]
  refine ⟨fun ⟨x, S1, e, y, e1, p⟩ => ?_, fun ⟨x, S1, e, b, e1, p⟩ => ⟨x, S1, e, .bl b, by rw [e1]; rfl, p⟩⟩
  cases q : ans x with
  | none => rw [q] at e1; cases e1
  | some b =>
    rw [q] at e1
    cases e1
    exact ⟨x, S1, e, b, q, p⟩
/-- is None, is not None -/
def isN (n : Bool) : PV → PV
  | .non => .bl (!n)
  | _ => .bl n
theorem wq_mIsN {n : Bool} {m : M PV} {P : PV → Sto → Prop} : wq (mIsN n m) S P ↔ wq m S fun x S1 => P (isN n x) S1 := by
  unfold mIsN
  rw [wq_bnd]
  have e : ∀ x : PV, (match x with | .non => PV.bl (!n) | _ => .bl n) = isN n x := fun x => by cases x <;> rfl
  constructor
  · rintro ⟨x, S1, h, p⟩
    refine ⟨x, S1, h, ?_⟩
    have q := wq_ret.mp p
    cases x <;> exact q
  · rintro ⟨x, S1, h, p⟩
    refine ⟨x, S1, h, wq_ret.mpr ?_⟩
    cases x <;> exact p
theorem wq_roM {o : Option RO} {P : PV → Sto → Prop} : wq (roM o) S P ↔ ∃ y, o = some (.ret y) ∧ P y S := by
  cases o with
  | none => simp [roM]
  | some r =>
    cases r with
    | ret y => simp [roM]
    | exc c fs =>
      simp only [roM, Option.some.injEq, reduceCtorEq, false_and, exists_false, iff_false]
      rintro ⟨x, S', e, p⟩
      cases e
theorem wq_mCall {f : List PV → Option RO} {ms : List (M PV)} {P : PV → Sto → Prop} : wq (mCall f ms) S P ↔ wq (mArgs ms) S fun xs S1 => ∃ y, f xs = some (.ret y) ∧ P y S1 := by
  unfold mCall
  simp only [wq_bnd, wq_roM]
theorem wq_roQ {o : Option RO} {P : PV → Sto → Prop} : wq (roQ o) S P ↔ ∃ y, o = some (.ret y) ∧ P y S := by
  cases o with
  | none => simp [roQ]
  | some r => cases r <;> simp [roQ]
theorem wq_mCMeth {c : Nat} {f : List PV → Option RO} {ms : List (M PV)} {P : PV → Sto → Prop} : wq (mCMeth c f ms) S P ↔ wq (mArgs ms) S fun xs S1 => ∃ y, f (.glb c :: xs) = some (.ret y) ∧ P y S1 := by
  unfold mCMeth
  simp only [wq_bnd, wq_roQ]
theorem wq_mVar {i : Nat} {P : PV → Sto → Prop} : wq (mVar i) S P ↔ (∃ x, S[i]? = some (some (.p x)) ∧ P x S) ∨ ∃ x, S[i]? = some (some (.o x)) ∧ P x (S.set i (some (.p x))) := by
  constructor
  · rintro ⟨x, S', e, p⟩
    unfold mVar at e
    split at e
    · rename_i y h
      cases e
      exact .inl ⟨_, h, p⟩
    · rename_i y h
      cases e
      exact .inr ⟨_, h, p⟩
    · cases e
  · rintro (⟨x, h, p⟩ | ⟨x, h, p⟩)
    · exact ⟨x, S, by unfold mVar; rw [h], p⟩
    · exact ⟨x, _, by unfold mVar; rw [h], p⟩
theorem wq_put {i : Nat} {x : PV} {P : Unit → Sto → Prop} : wq (put i x) S P ↔ (S[i]? = some none ∨ (∃ y, S[i]? = some (some (.p y))) ∨ ∃ y, S[i]? = some (some (.o y))) ∧ P () (S.set i (some (.p x))) := by
  constructor
  · rintro ⟨u, S', e, p⟩
    unfold put at e
    split at e
    · cases e
    · cases e
    · rename_i h1 h2
      cases e
      refine ⟨?_, p⟩
      cases q : S[i]? with
      | none => exact absurd q h2
      | some o =>
        cases o with
        | none => exact .inl rfl
        | some v =>
          cases v with
          | p y => exact .inr (.inl ⟨y, rfl⟩)
          | o y => exact .inr (.inr ⟨y, rfl⟩)
          | i y => exact absurd q (h1 y)
  · rintro ⟨h, p⟩
    refine ⟨(), S.set i (some (.p x)), ?_, p⟩
    unfold put
    rcases h with h | ⟨y, h⟩ | ⟨y, h⟩ <;> rw [h]
theorem wq_putO {i : Nat} {x : PV} {P : Unit → Sto → Prop} : wq (putO i x) S P ↔ (S[i]? = some none ∨ (∃ y, S[i]? = some (some (.p y))) ∨ ∃ y, S[i]? = some (some (.o y))) ∧ P () (S.set i (some (.o x))) := by
  constructor
  · rintro ⟨u, S', e, p⟩
    unfold putO at e
    split at e
    · cases e
    · cases e
    · rename_i h1 h2
      cases e
      refine ⟨?_, p⟩
      cases q : S[i]? with
      | none => exact absurd q h2
      | some o =>
        cases o with
        | none => exact .inl rfl
        | some v =>
          cases v with
          | p y => exact .inr (.inl ⟨y, rfl⟩)
          | o y => exact .inr (.inr ⟨y, rfl⟩)
          | i y => exact absurd q (h1 y)
  · rintro ⟨h, p⟩
    refine ⟨(), S.set i (some (.o x)), ?_, p⟩
    unfold putO
    rcases h with h | ⟨y, h⟩ | ⟨y, h⟩ <;> rw [h]
theorem wq_mSet {i : Nat} {m : M PV} {P : Fl → Sto → Prop} : wq (mSet i m) S P ↔ wq m S fun x S1 => wq (put i x) S1 fun _ S2 => P .nx S2 := by
  unfold mSet
  simp only [wq_bnd, wq_ret]
theorem wq_mSetO {i : Nat} {m : M PV} {P : Fl → Sto → Prop} : wq (mSetO i m) S P ↔ wq m S fun x S1 => wq (putO i x) S1 fun _ S2 => P .nx S2 := by
  unfold mSetO
  simp only [wq_bnd, wq_ret]
theorem wq_mDct {P : PV → Sto → Prop} : wq mDct S P ↔ P (.dct []) S := wq_ret
theorem pk_iff {i : Nat} {x : PV} : pk i S = some x ↔ S[i]? = some (some (.p x)) ∨ S[i]? = some (some (.o x)) ∨ S[i]? = some (some (.i x)) := by
  unfold pk
  constructor
  · intro h
    split at h
    · rename_i y e; cases h; exact .inl e
    · rename_i y e; cases h; exact .inr (.inl e)
    · rename_i y e; cases h; exact .inr (.inr e)
    · cases h
  · rintro (h | h | h) <;> rw [h]
theorem wq_guardPk {i : Nat} {m : M α} {P : α → Sto → Prop} : wq (guardPk i m) S P ↔ (∃ x, pk i S = some x) ∧ wq m S P := by
  unfold guardPk
  constructor
  · rintro ⟨y, S', e, p⟩
    try dsimp only at e
    split at e
    · rename_i x h
      exact ⟨⟨x, h⟩, y, S', e, p⟩
    · cases e
  · rintro ⟨⟨x, h⟩, y, S', e, p⟩
    refine ⟨y, S', ?_, p⟩
    dsimp only
    rw [h]
    exact e
theorem wq_opk {i : Nat} {f : PV → Option PV} {P : PV → Sto → Prop} : wq (opk i f) S P ↔ ∃ x z, pk i S = some x ∧ f x = some z ∧ z.atom = true ∧ P z S := by
  constructor
  · rintro ⟨y, S', e, p⟩
    obtain ⟨x, z, h1, h2, h3, h4⟩ := opk_some e
    cases h4
    exact ⟨x, y, h1, h2, h3, p⟩
  · rintro ⟨x, z, h1, h2, h3, p⟩
    refine ⟨z, S, ?_, p⟩
    unfold opk
    rw [h1]
    dsimp only
    rw [h2]
    dsimp only
    rw [if_pos h3]
theorem wq_mCBV {g : List PV → Option PV} {i : Nat} {P : PV → Sto → Prop} : wq (mCBV g i) S P ↔ ∃ x z, pk i S = some x ∧ g [x] = some z ∧ z.atom = true ∧ P z S := wq_opk
theorem wq_mBinL {g : PV → PV → Option PV} {i : Nat} {mb : M PV} {P : PV → Sto → Prop} : wq (mBinL g i mb) S P ↔ (∃ x, pk i S = some x) ∧ wq mb S fun y S1 => ∃ x z, pk i S1 = some x ∧ g x y = some z ∧ z.atom = true ∧ P z S1 := by
  unfold mBinL
  simp only [wq_guardPk, wq_bnd, wq_opk]
theorem wq_mBinR {g : PV → PV → Option PV} {i : Nat} {ma : M PV} {P : PV → Sto → Prop} : wq (mBinR g ma i) S P ↔ wq ma S fun x S1 => ∃ y z, pk i S1 = some y ∧ g x y = some z ∧ z.atom = true ∧ P z S1 := by
  unfold mBinR
  simp only [wq_bnd, wq_opk]
theorem wq_mIxV {i : Nat} {mk : M PV} {P : PV → Sto → Prop} : wq (mIxV i mk) S P ↔ (∃ x, pk i S = some x) ∧ wq mk S fun y S1 => ∃ x z, pk i S1 = some x ∧ pIx x y = some z ∧ P z S1 := by
  unfold mIxV
  rw [wq_guardPk, wq_bnd]
  refine and_congr_right fun _ => ?_
  constructor
  · rintro ⟨y, S1, h, z, S', e, p⟩
    refine ⟨y, S1, h, ?_⟩
    dsimp only at e
    cases h1 : pk i S1 with
    | none => rw [h1] at e; cases e
    | some x =>
      rw [h1] at e
      dsimp only at e
      cases h2 : pIx x y with
      | none => rw [h2] at e; cases e
      | some u =>
        rw [h2] at e
        cases e
        exact ⟨x, z, h1, h2, p⟩
  · rintro ⟨y, S1, h, x, z, h1, h2, p⟩
    refine ⟨y, S1, h, z, S1, ?_, p⟩
    dsimp only
    rw [h1]
    dsimp only
    rw [h2]
theorem wq_mFldV {i c : Nat} {f : Str} {P : PV → Sto → Prop} : wq (mFldV i c f) S P ↔ ∃ x z, pk i S = some x ∧ pFld c f x = some z ∧ P z S := by
  constructor
  · rintro ⟨z, S', e, p⟩
    unfold mFldV at e
    split at e
    · rename_i x h
      split at e
      · rename_i u hu
        cases e
        exact ⟨x, z, h, hu, p⟩
      · cases e
    · cases e
  · rintro ⟨x, z, h, hu, p⟩
    refine ⟨z, S, ?_, p⟩
    unfold mFldV
    rw [h]
    dsimp only
    rw [hu]
theorem wq_mTruV {i : Nat} {P : Bool → Sto → Prop} : wq (mTruV i) S P ↔ ∃ x z, pk i S = some x ∧ truP x = some z ∧ P z S := by
  constructor
  · rintro ⟨z, S', e, p⟩
    unfold mTruV at e
    split at e
    · rename_i x h
      split at e
      · rename_i u hu
        cases e
        exact ⟨x, z, h, hu, p⟩
      · cases e
    · cases e
  · rintro ⟨x, z, h, hu, p⟩
    refine ⟨z, S, ?_, p⟩
    unfold mTruV
    rw [h]
    dsimp only
    rw [hu]
/-- an own slot's or a handed-in slot's value is changed -/
def chg (i : Nat) (S : Sto) (R : PV → PV → (SV → Sto → Prop) → Prop) : Prop := True
theorem wq_updO {i : Nat} {f : PV → Option PV} {P : Unit → Sto → Prop} : wq (updO i f) S P ↔ (∃ x x', S[i]? = some (some (.o x)) ∧ f x = some x' ∧ P () (S.set i (some (.o x')))) ∨ ∃ x x', S[i]? = some (some (.i x)) ∧ f x = some x' ∧ P () (S.set i (some (.i x'))) := by
  constructor
  · rintro ⟨z, S', e, p⟩
    unfold updO at e
    split at e
    · rename_i x h
      split at e
      · rename_i u hu
        cases e
        exact .inl ⟨x, u, h, hu, p⟩
      · cases e
    · rename_i x h
      split at e
      · rename_i u hu
        cases e
        exact .inr ⟨x, u, h, hu, p⟩
      · cases e
    · cases e
  · rintro (⟨x, u, h, hu, p⟩ | ⟨x, u, h, hu, p⟩)
    · refine ⟨(), _, ?_, p⟩
      unfold updO
      rw [h]
      dsimp only
      rw [hu]
    · refine ⟨(), _, ?_, p⟩
      unfold updO
      rw [h]
      dsimp only
      rw [hu]
theorem wq_updR {i : Nat} {f : PV → Option (PV × PV)} {P : PV → Sto → Prop} : wq (updR i f) S P ↔ (∃ x x' z, S[i]? = some (some (.o x)) ∧ f x = some (x', z) ∧ P z (S.set i (some (.o x')))) ∨ ∃ x x' z, S[i]? = some (some (.i x)) ∧ f x = some (x', z) ∧ P z (S.set i (some (.i x'))) := by
  constructor
  · rintro ⟨z, S', e, p⟩
    unfold updR at e
    split at e
    · rename_i x h
      split at e
      · rename_i u v hu
        cases e
        exact .inl ⟨x, u, z, h, hu, p⟩
      · cases e
    · rename_i x h
      split at e
      · rename_i u v hu
        cases e
        exact .inr ⟨x, u, z, h, hu, p⟩
      · cases e
    · cases e
  · rintro (⟨x, u, v, h, hu, p⟩ | ⟨x, u, v, h, hu, p⟩)
    · refine ⟨v, _, ?_, p⟩
      unfold updR
      rw [h]
      dsimp only
      rw [hu]
    · refine ⟨v, _, ?_, p⟩
      unfold updR
      rw [h]
      dsimp only
      rw [hu]
theorem wq_mPut {i : Nat} {mk me : M PV} {P : Fl → Sto → Prop} : wq (mPut i mk me) S P ↔ wq me S fun v S1 => (∃ x, pk i S1 = some x) ∧ wq mk S1 fun k S2 => wq (updO i fun x => pPut x k v) S2 fun _ S3 => P .nx S3 := by
  unfold mPut
  simp only [wq_bnd, wq_guardPk, wq_ret]
theorem wq_mSetF {i c : Nat} {f : Str} {me : M PV} {P : Fl → Sto → Prop} : wq (mSetF i c f me) S P ↔ wq me S fun v S1 => wq (updO i (pSetF c f v)) S1 fun _ S2 => P .nx S2 := by
  unfold mSetF
  simp only [wq_bnd, wq_ret]
theorem wq_mMt {T : String} {i : Nat} {f : PV → List PV → Option (PV × PV)} {ms : List (M PV)} {P : PV → Sto → Prop} : wq (mMt T i f ms) S P ↔ isOT T i S = true ∧ wq (mArgs ms) S fun xs S1 => wq (updR i fun x => f x xs) S1 P := by
  unfold mMt
  constructor
  · rintro ⟨z, S', e, p⟩
    try dsimp only at e
    split at e
    · rename_i h
      exact ⟨h, wq_bnd.mp ⟨z, S', e, p⟩⟩
    · cases e
  · rintro ⟨h, q⟩
    obtain ⟨z, S', e, p⟩ := wq_bnd.mpr q
    exact ⟨z, S', by dsimp only; rw [if_pos h]; exact e, p⟩
theorem wq_mApp {i : Nat} {m : M PV} {P : Fl → Sto → Prop} : wq (mApp i m) S P ↔ isOT "list" i S = true ∧ wq m S fun x S1 => wq (updR i fun l => fApp l [x]) S1 fun _ S2 => P .nx S2 := by
  unfold mApp
  simp only [wq_mDrop, wq_mMt, wq_mArgs_cons, wq_mArgs_nil]
theorem wq_mIn {i : Nat} {h : PV → Option (PV × RO)} {P : PV → Sto → Prop} : wq (mIn i h) S P ↔ (∃ x x' z, S[i]? = some (some (.o x)) ∧ h x = some (x', .ret z) ∧ P z (S.set i (some (.o x')))) ∨ ∃ x x' z, S[i]? = some (some (.i x)) ∧ h x = some (x', .ret z) ∧ P z (S.set i (some (.i x'))) := by
  constructor
  · rintro ⟨z, S', e, p⟩
    unfold mIn at e
    split at e
    · rename_i x h
      split at e
      · rename_i u v hu
        cases e
        exact .inl ⟨x, u, z, h, hu, p⟩
      · cases e
      · cases e
    · rename_i x h
      split at e
      · rename_i u v hu
        cases e
        exact .inr ⟨x, u, z, h, hu, p⟩
      · cases e
      · cases e
    · cases e
  · rintro (⟨x, u, v, h, hu, p⟩ | ⟨x, u, v, h, hu, p⟩)
    · refine ⟨v, _, ?_, p⟩
      unfold mIn
      rw [h]
      dsimp only
      rw [hu]
    · refine ⟨v, _, ?_, p⟩
      unfold mIn
      rw [h]
      dsimp only
      rw [hu]
theorem wq_mCallI {i : Nat} {f : PV → List PV → Option (PV × RO)} {ms : List (M PV)} {P : PV → Sto → Prop} : wq (mCallI i f ms) S P ↔ isO i S = true ∧ wq (mArgs ms) S fun xs S1 => wq (mIn i fun x => f x xs) S1 P := by
  unfold mCallI
  constructor
  · rintro ⟨z, S', e, p⟩
    try dsimp only at e
    split at e
    · rename_i h
      exact ⟨h, wq_bnd.mp ⟨z, S', e, p⟩⟩
    · cases e
  · rintro ⟨h, q⟩
    obtain ⟨z, S', e, p⟩ := wq_bnd.mpr q
    exact ⟨z, S', by dsimp only; rw [if_pos h]; exact e, p⟩
theorem wq_mkM {h : PV → Option (PV × RO)} {c : Nat} {P : PV → Sto → Prop} : wq (mkM h c) S P ↔ ∃ x', h (.obj c []) = some (x', .ret .non) ∧ P x' S := by
  constructor
  · rintro ⟨z, S', e, p⟩
    unfold mkM at e
    split at e
    · rename_i u hu
      cases e
      exact ⟨z, hu, p⟩
    · cases e
    · cases e
  · rintro ⟨x, hu, p⟩
    refine ⟨x, S, ?_, p⟩
    unfold mkM
    rw [hu]
theorem wq_mMake {c : Nat} {f : PV → List PV → Option (PV × RO)} {ms : List (M PV)} {P : PV → Sto → Prop} : wq (mMake c f ms) S P ↔ wq (mArgs ms) S fun xs S1 => ∃ x', f (.obj c []) xs = some (x', .ret .non) ∧ P x' S1 := by
  unfold mMake
  simp only [wq_bnd, wq_mkM]
theorem wq_mMake0 {c : Nat} {f : PV → List PV → Option (PV × RO)} {ds : List PV} {P : PV → Sto → Prop} : wq (mMake0 c f ds) S P ↔ ∃ x', f (.obj c []) ds = some (x', .ret .non) ∧ P x' S := by
  unfold mMake0
  simp only [wq_mkM]
theorem wq_mMakeV {i c : Nat} {f : PV → List PV → Option (PV × RO)} {ms : List (M PV)} {P : PV → Sto → Prop} : wq (mMakeV i c f ms) S P ↔ S[i]? = some (some (.p (.glb c))) ∧ wq (mMake c f ms) S P := by
  constructor
  · rintro ⟨z, S', e, p⟩
    unfold mMakeV at e
    split at e
    · rename_i d h
      split at e
      · rename_i hd
        subst hd
        exact ⟨h, z, S', e, p⟩
      · cases e
    · cases e
  · rintro ⟨h, z, S', e, p⟩
    refine ⟨z, S', ?_, p⟩
    unfold mMakeV
    rw [h]
    dsimp only
    rw [if_pos rfl]
    exact e
theorem wq_mMeth {c : Nat} {m : Str} {f : List PV → Option RO} {mo : M PV} {ms : List (M PV)} {P : PV → Sto → Prop} : wq (mMeth c m f mo ms) S P ↔ wq mo S fun x S1 => ∃ fs, x = .obj c fs ∧ fs.lookup m = none ∧ wq (mArgs ms) S1 fun xs S2 => ∃ y, f (.obj c fs :: xs) = some (.ret y) ∧ P y S2 := by
  unfold mMeth
  rw [wq_bnd]
  constructor
  · rintro ⟨x, S1, e, q⟩
    refine ⟨x, S1, e, ?_⟩
    split at q
    · rename_i d fs
      split at q
      · rename_i hd
        obtain ⟨rfl, hl⟩ := hd
        exact ⟨fs, rfl, hl, by simpa only [wq_bnd, wq_roM] using q⟩
      · exact (wq_none.mp q).elim
    · exact (wq_none.mp q).elim
  · rintro ⟨x, S1, e, fs, rfl, hl, q⟩
    refine ⟨_, S1, e, ?_⟩
    dsimp only
    rw [if_pos ⟨rfl, hl⟩]
    simpa only [wq_bnd, wq_roM] using q
theorem wq_mCallO {c : Nat} {f : List PV → Option RO} {mo : M PV} {ms : List (M PV)} {P : PV → Sto → Prop} : wq (mCallO c f mo ms) S P ↔ wq mo S fun x S1 => ∃ fs, x = .obj c fs ∧ wq (mArgs ms) S1 fun xs S2 => ∃ y, f (.obj c fs :: xs) = some (.ret y) ∧ P y S2 := by
  unfold mCallO
  rw [wq_bnd]
  constructor
  · rintro ⟨x, S1, e, q⟩
    refine ⟨x, S1, e, ?_⟩
    split at q
    · rename_i d fs
      split at q
      · rename_i hd
        subst hd
        exact ⟨fs, rfl, by simpa only [wq_bnd, wq_roQ] using q⟩
      · exact (wq_none.mp q).elim
    · exact (wq_none.mp q).elim
  · rintro ⟨x, S1, e, fs, rfl, q⟩
    refine ⟨_, S1, e, ?_⟩
    dsimp only
    rw [if_pos rfl]
    simpa only [wq_bnd, wq_roQ] using q
theorem wq_mNoB {P : Option Int → Sto → Prop} : wq mNoB S P ↔ P none S := wq_ret
theorem wq_mBd {m : M PV} {P : Option Int → Sto → Prop} : wq (mBd m) S P ↔ wq m S fun x S1 => ∃ i, x = .int i ∧ P (some i) S1 := by
  unfold mBd
  rw [wq_bnd]
  constructor
  · rintro ⟨x, S1, e, q⟩
    refine ⟨x, S1, e, ?_⟩
    split at q
    · exact ⟨_, rfl, wq_ret.mp q⟩
    · exact (wq_none.mp q).elim
  · rintro ⟨x, S1, e, i, rfl, q⟩
    exact ⟨_, S1, e, wq_ret.mpr q⟩
theorem wq_mSl {m : M PV} {lo hi : M (Option Int)} {P : PV → Sto → Prop} : wq (mSl m lo hi) S P ↔ wq m S fun x S1 => wq lo S1 fun a S2 => wq hi S2 fun b S3 => ∃ z, pSl x a b = some z ∧ P z S3 := by
  unfold mSl
  simp only [wq_bnd, wq_lift]
theorem wq_mRng1 {m : M PV} {P : List PV → Sto → Prop} : wq (mRng1 m) S P ↔ wq m S fun x S1 => ∃ j, x = .int j ∧ inR j = true ∧ P (rangeP 0 j.toNat) S1 := by
  unfold mRng1
  rw [wq_bnd]
  constructor
  · rintro ⟨x, S1, e, q⟩
    refine ⟨x, S1, e, ?_⟩
    split at q
    · split at q
      · rename_i h
        exact ⟨_, rfl, h, wq_ret.mp q⟩
      · exact (wq_none.mp q).elim
    · exact (wq_none.mp q).elim
  · rintro ⟨x, S1, e, i, rfl, h, q⟩
    refine ⟨_, S1, e, ?_⟩
    dsimp only
    rw [if_pos h]
    exact wq_ret.mpr q
theorem wq_mRng2 {m n : M PV} {P : List PV → Sto → Prop} : wq (mRng2 m n) S P ↔ wq m S fun x S1 => wq n S1 fun y S2 => ∃ i j, x = .int i ∧ y = .int j ∧ inR i = true ∧ inR j = true ∧ P (rangeP i (j - i).toNat) S2 := by
  unfold mRng2
  simp only [wq_bnd]
  constructor
  · rintro ⟨x, S1, e, y, S2, e2, q⟩
    refine ⟨x, S1, e, y, S2, e2, ?_⟩
    split at q
    · split at q
      · rename_i h
        exact ⟨_, _, rfl, rfl, h.1, h.2, wq_ret.mp q⟩
      · exact (wq_none.mp q).elim
    · exact (wq_none.mp q).elim
  · rintro ⟨x, S1, e, y, S2, e2, i, j, rfl, rfl, h1, h2, q⟩
    refine ⟨_, S1, e, _, S2, e2, ?_⟩
    dsimp only
    rw [if_pos ⟨h1, h2⟩]
    exact wq_ret.mpr q
/-- what is gone through -/
def itA : PV → Option (List PV)
  | .lst xs => some xs
  | .frl ns => some (ns.map PV.int)
  | .tup xs => some xs
  | .str z => some (charsP z)
  | _ => none
theorem wq_mIterA {m : M PV} {P : List PV → Sto → Prop} : wq (mIterA m) S P ↔ wq m S fun x S1 => ∃ ys, itA x = some ys ∧ P ys S1 := by
  unfold mIterA
  rw [wq_bnd]
  have e : (fun (x : PV) S1 => wq (match x with | .lst xs => ret xs | .frl ns => ret (ns.map PV.int) | .tup xs => ret xs | .str z => ret (charsP z) | _ => fun _ => none) S1 P) = fun x S1 => ∃ ys, itA x = some ys ∧ P ys S1 := by
    funext x S1
    apply propext
    cases x <;> simp [itA]
  rw [← e]
  all_goals rfl
theorem wq_mChain {g g' : PV → PV → Option PV} {ma mb mc : M PV} {P : PV → Sto → Prop} : wq (mChain g g' ma mb mc) S P ↔ wq ma S fun x S1 => wq mb S1 fun y S2 => ∃ b, g x y = some (.bl b) ∧ (b = true → wq mc S2 fun u S3 => ∃ z, g' y u = some z ∧ P z S3) ∧ (b = false → P (.bl false) S2) := by
  unfold mChain
  simp only [wq_bnd, wq_lift]
  have e : ∀ (y : PV) (o : Option PV) (S2 : Sto), (∃ z, o = some z ∧ wq (asB z) S2 fun b S3 => wq (if b = true then bnd mc fun u => lift (g' y u) else ret (.bl false)) S3 P) ↔ ∃ b, o = some (.bl b) ∧ (b = true → wq mc S2 fun u S3 => ∃ z, g' y u = some z ∧ P z S3) ∧ (b = false → P (.bl false) S2) := by
    intro y o S2
    constructor
    · rintro ⟨z, rfl, q⟩
      cases z <;> simp only [asB, wq_none, wq_ret] at q
      rename_i b
      refine ⟨b, rfl, ?_⟩
      cases b <;> simpa [wq_bnd, wq_lift] using q
    · rintro ⟨b, rfl, q⟩
      refine ⟨_, rfl, ?_⟩
      simp only [asB, wq_ret]
      cases b <;> simpa [wq_bnd, wq_lift] using q
  simp only [e]
theorem wq_mGet2 {mo mk md : M PV} {P : PV → Sto → Prop} : wq (mGet2 mo mk md) S P ↔ wq mo S fun x S1 => isDct x = true ∧ wq mk S1 fun k S2 => wq md S2 fun d S3 => ∃ z, pGet x k d = some z ∧ P z S3 := by
  unfold mGet2
  rw [wq_bnd]
  constructor
  · rintro ⟨x, S1, e, q⟩
    refine ⟨x, S1, e, ?_⟩
    split at q
    · rename_i h
      exact ⟨h, by simpa only [wq_bnd, wq_lift] using q⟩
    · exact (wq_none.mp q).elim
  · rintro ⟨x, S1, e, h, q⟩
    refine ⟨_, S1, e, ?_⟩
    dsimp only
    rw [if_pos h]
    simpa only [wq_bnd, wq_lift] using q
theorem wq_mBinS {g : PV → PV → Option PV} {mo me : M PV} {P : PV → Sto → Prop} : wq (mBinS g mo me) S P ↔ wq mo S fun x S1 => isStr x = true ∧ wq me S1 fun y S2 => ∃ z, g x y = some z ∧ P z S2 := by
  unfold mBinS
  rw [wq_bnd]
  constructor
  · rintro ⟨x, S1, e, q⟩
    refine ⟨x, S1, e, ?_⟩
    split at q
    · rename_i h
      exact ⟨h, by simpa only [wq_bnd, wq_lift] using q⟩
    · exact (wq_none.mp q).elim
  · rintro ⟨x, S1, e, h, q⟩
    refine ⟨_, S1, e, ?_⟩
    dsimp only
    rw [if_pos h]
    simpa only [wq_bnd, wq_lift] using q
theorem wq_mAsg {m : M PV} {g : PV → Sto → Option Sto} {P : Fl → Sto → Prop} : wq (mAsg m g) S P ↔ wq m S fun x S1 => ∃ S2, g x S1 = some S2 ∧ P .nx S2 := by
  unfold mAsg
  rw [wq_bnd]
  constructor
  · rintro ⟨x, S1, e, y, S2, e2, p⟩
    refine ⟨x, S1, e, ?_⟩
    dsimp only at e2
    split at e2
    · rename_i S3 h
      cases e2
      exact ⟨_, h, p⟩
    · cases e2
  · rintro ⟨x, S1, e, S2, h, p⟩
    refine ⟨x, S1, e, .nx, S2, ?_, p⟩
    dsimp only
    rw [h]
/-! #### loops -/
/-- behind a turn of a loop -/
def trn (k : Sto → Prop) (P : Fl → Sto → Prop) : Fl → Sto → Prop
  | .nx, S => k S
  | .ct, S => k S
  | .bk, S => P .nx S
  | .rt y, S => P (.rt y) S
theorem trn_nx {k : Sto → Prop} {P : Fl → Sto → Prop} : trn k P .nx S ↔ k S := Iff.rfl
theorem trn_ct {k : Sto → Prop} {P : Fl → Sto → Prop} : trn k P .ct S ↔ k S := Iff.rfl
theorem trn_bk {k : Sto → Prop} {P : Fl → Sto → Prop} : trn k P .bk S ↔ P .nx S := Iff.rfl
theorem trn_rt {k : Sto → Prop} {P : Fl → Sto → Prop} {y : PV} : trn k P (.rt y) S ↔ P (.rt y) S := Iff.rfl
theorem wq_loop {g : PV → Sto → Option Sto} {m : M Fl} {P : Fl → Sto → Prop} (I : List PV → Sto → Prop) (h0 : ∀ S, I [] S → P .nx S)
    (h1 : ∀ y ys S, I (y :: ys) S → ∃ S1, g y S = some S1 ∧ wq m S1 (trn (I ys) P)) : ∀ {ys : List PV} {S : Sto}, I ys S → wq (loop g m ys) S P
  | [], S, h => wq_ret.mpr (h0 S h)
  | y :: ys, S, h => by
    obtain ⟨S1, e1, f, S2, e2, q⟩ := h1 y ys S h
    have step : loop g m (y :: ys) S = match m S1 with
      | none => none
      | some (.ok .nx S2) => loop g m ys S2
      | some (.ok .ct S2) => loop g m ys S2
      | some (.ok .bk S2) => some (.ok .nx S2)
      | some r => some r := by
      show (match g y S with | none => none | some S1 => _) = _
      rw [e1]
      all_goals rfl
    cases f with
    | nx =>
      obtain ⟨x, S', e, p⟩ := wq_loop I h0 h1 (ys := ys) (S := S2) q
      exact ⟨x, S', by rw [step, e2]; exact e, p⟩
    | ct =>
      obtain ⟨x, S', e, p⟩ := wq_loop I h0 h1 (ys := ys) (S := S2) q
      exact ⟨x, S', by rw [step, e2]; exact e, p⟩
    | bk => exact ⟨.nx, S2, by rw [step, e2], q⟩
    | rt y => exact ⟨.rt y, S2, by rw [step, e2], q⟩
theorem wq_mFor {mi : M (List PV)} {g : PV → Sto → Option Sto} {m : M Fl} {P : Fl → Sto → Prop} : wq (mFor mi g m) S P ↔ wq mi S fun ys S1 => wq (loop g m ys) S1 P := by
  unfold mFor
  constructor
  · rintro ⟨x, S', e, p⟩
    try dsimp only at e
    split at e
    · rename_i ys S1 e1
      exact ⟨ys, S1, e1, x, S', e, p⟩
    · cases e
  · rintro ⟨ys, S1, e1, x, S', e, p⟩
    refine ⟨x, S', ?_, p⟩
    dsimp only
    rw [e1]
    exact e
/-! #### comprehensions -/
/-- the turns of a comprehension, with an invariant: what is left, what is gathered, the store -/
theorem lcGo_inv {vs : List Nat} {g : PV → Sto → Option Sto} {mt : M Bool} {me : M PV} (I : List PV → List PV → Sto → Prop)
    (h1 : ∀ y ys acc S, I (y :: ys) acc S → ∃ S1, g y S = some S1 ∧ wq mt S1 fun b S2 => (b = true → wq me S2 fun z S3 => I ys (acc ++ [z]) (wipeS S3 vs)) ∧ (b = false → I ys acc (wipeS S2 vs))) :
    ∀ {ys acc : List PV} {S : Sto}, I ys acc S → ∃ zs S', lcGo vs g mt me ys S = some (zs, S') ∧ I [] (acc ++ zs) S'
  | [], acc, S, h => ⟨[], S, rfl, by rw [List.append_nil]; exact h⟩
  | y :: ys, acc, S, h => by
    obtain ⟨S1, e1, b, S2, e2, qt, qf⟩ := h1 y ys acc S h
    cases b with
    | true =>
      obtain ⟨z, S3, e3, q⟩ := qt rfl
      obtain ⟨zs, S4, e4, q4⟩ := lcGo_inv I h1 q
      refine ⟨z :: zs, S4, ?_, by rw [List.append_assoc] at q4; exact q4⟩
      unfold lcGo
      rw [e1]
      dsimp only
      rw [e2]
      dsimp only
      rw [e3]
      dsimp only
      rw [e4]
    | false =>
      obtain ⟨zs, S4, e4, q4⟩ := lcGo_inv I h1 (qf rfl)
      refine ⟨zs, S4, ?_, q4⟩
      unfold lcGo
      rw [e1]
      dsimp only
      rw [e2]
      dsimp only
      exact e4
theorem wq_mLc {vs : List Nat} {mi : M (List PV)} {g : PV → Sto → Option Sto} {mt : M Bool} {me : M PV} {P : PV → Sto → Prop} : wq (mLc vs mi g mt me) S P ↔ wq mi S fun ys S1 => ys.length ≤ sizeLine ∧ plainAt S1 vs = true ∧ ∃ zs S2, lcGo vs g mt me ys (wipeS S1 vs) = some (zs, S2) ∧ P (.lst zs) (backS S1 S2 vs) := by
  unfold mLc
  constructor
  · rintro ⟨x, S', e, p⟩
    try dsimp only at e
    split at e
    · rename_i ys S1 e1
      split at e
      · rename_i h
        split at e
        · rename_i zs S2 e2
          cases e
          exact ⟨ys, S1, e1, h.1, h.2, zs, S2, e2, p⟩
        · cases e
      · cases e
    · cases e
  · rintro ⟨ys, S1, e1, h1, h2, zs, S2, e2, p⟩
    refine ⟨.lst zs, backS S1 S2 vs, ?_, p⟩
    dsimp only
    rw [e1]
    dsimp only
    rw [if_pos ⟨h1, h2⟩, e2]
/-- a comprehension whose turns change nothing -/
theorem lcGo_pure {vs : List Nat} {g : PV → Sto → Option Sto} {mt : M Bool} {me : M PV} {S : Sto} (t : PV → Bool) (f : PV → PV) :
    ∀ {ys : List PV}, (∀ y ∈ ys, ∃ S1, g y S = some S1 ∧ wq mt S1 fun b S2 => b = t y ∧ (b = true → wq me S2 fun z S3 => z = f y ∧ wipeS S3 vs = S) ∧ (b = false → wipeS S2 vs = S)) → lcGo vs g mt me ys S = some ((ys.filter t).map f, S)
  | [], _ => rfl
  | y :: ys, h => by
    obtain ⟨S1, e1, b, S2, e2, eb, qt, qf⟩ := h y List.mem_cons_self
    have ih := lcGo_pure t f (ys := ys) fun z hz => h z (List.mem_cons_of_mem _ hz)
    cases b with
    | true =>
      obtain ⟨z, S3, e3, ez, ew⟩ := qt rfl
      unfold lcGo
      rw [e1]
      dsimp only
      rw [e2]
      dsimp only
      rw [e3]
      dsimp only
      rw [ew, ih]
      dsimp only
      rw [List.filter_cons, ← eb, if_pos rfl, List.map_cons, ez]
    | false =>
      unfold lcGo
      rw [e1]
      dsimp only
      rw [e2]
      dsimp only
      rw [qf rfl, ih, List.filter_cons, ← eb, if_neg Bool.false_ne_true]
end
/-! #### defs -/
def rtP (P : PV → Prop) : Fl → Sto → Prop
  | .rt y, _ => P y
  | .nx, _ => P .non
  | _, _ => False
theorem rtP_rt {P : PV → Prop} {y : PV} {S : Sto} : rtP P (.rt y) S ↔ P y := Iff.rfl
theorem rtP_nx {P : PV → Prop} {S : Sto} : rtP P .nx S ↔ P .non := Iff.rfl
theorem runP_wq {N : Nat} {m : M Fl} {xs : List PV} {P : PV → Prop} (h : wq m (stoP N xs) (rtP P)) : ∃ y, runP N m xs = some (.ret y) ∧ P y := by
  obtain ⟨f, S', e, p⟩ := h
  unfold runP
  rw [e]
  cases f with
  | nx => exact ⟨_, rfl, p⟩
  | rt y => exact ⟨_, rfl, p⟩
  | bk => exact p.elim
  | ct => exact p.elim
theorem runP_eq {N : Nat} {m : M Fl} {xs : List PV} {v : PV} (h : wq m (stoP N xs) (rtP (· = v))) : runP N m xs = some (.ret v) := by
  obtain ⟨y, e, rfl⟩ := runP_wq h
  exact e
def rtI (P : PV → PV → Prop) : Fl → Sto → Prop
  | .rt y, some (.i x) :: _ => P x y
  | .nx, some (.i x) :: _ => P x .non
  | _, _ => False
theorem rtI_rt {P : PV → PV → Prop} {x y : PV} {S : Sto} : rtI P (.rt y) (some (.i x) :: S) ↔ P x y := Iff.rfl
theorem rtI_nx {P : PV → PV → Prop} {x : PV} {S : Sto} : rtI P .nx (some (.i x) :: S) ↔ P x .non := Iff.rfl
theorem runI_wq {N : Nat} {m : M Fl} {x : PV} {xs : List PV} {P : PV → PV → Prop} (h : wq m (some (.i x) :: stoP (N - 1) xs) (rtI P)) : ∃ x' y, runI N m x xs = some (x', .ret y) ∧ P x' y := by
  obtain ⟨f, S', e, p⟩ := h
  unfold runI
  rw [e]
  unfold rtI at p
  split at p
  · exact ⟨_, _, rfl, p⟩
  · exact ⟨_, _, rfl, p⟩
  · exact p.elim
theorem runO_wq {N : Nat} {m : M PV} {xs : List PV} {P : PV → Prop} (h : wq m (stoP N xs) (fun y _ => P y)) : ∃ y, runO N m xs = some (.ret y) ∧ P y := by
  obtain ⟨f, S', e, p⟩ := h
  unfold runO
  rw [e]
  exact ⟨_, rfl, p⟩
end Kp
set_option Elab.async false
set_option linter.all false
set_option maxRecDepth 100000
set_option maxHeartbeats 4000000
namespace Kp
open PySem L2
/-! ### head first: words that keep what comes behind apart from the store, so that simp goes on only where the store is told -/
abbrev Kt (α : Type) := α → Sto → Prop
def exS {α : Type} (o : Option α) (S : Sto) (P : Kt α) : Prop := ∃ z, o = some z ∧ P z S
def exR (o : Option RO) (S : Sto) (P : Kt PV) : Prop := ∃ z, o = some (.ret z) ∧ P z S
def gdS (b : Bool) (S : Sto) (P : Sto → Prop) : Prop := b = true ∧ P S
def brS {α : Type} (b : Bool) (m n : M α) (S : Sto) (P : Kt α) : Prop := (b = true → wq m S P) ∧ (b = false → wq n S P)
def blE (x : PV) (S : Sto) (P : Kt Bool) : Prop := ∃ b, x = .bl b ∧ P b S
def inE (x : PV) (S : Sto) (P : Kt Int) : Prop := ∃ b, x = .int b ∧ P b S
def obE (c : Nat) (x : PV) (S : Sto) (P : Kt (List (Str × PV))) : Prop := ∃ fs, x = .obj c fs ∧ P fs S
section
variable {α β : Type} {S : Sto}
@[simp] theorem exS_some {z : α} {P : Kt α} : exS (some z) S P ↔ P z S := ⟨fun ⟨_, e, p⟩ => by cases e; exact p, fun p => ⟨z, rfl, p⟩⟩
@[simp] theorem exS_none {P : Kt α} : exS none S P ↔ False := ⟨fun ⟨_, e, p⟩ => (by cases e), False.elim⟩
@[simp] theorem exR_some {z : PV} {P : Kt PV} : exR (some (.ret z)) S P ↔ P z S := ⟨fun ⟨_, e, p⟩ => by cases e; exact p, fun p => ⟨z, rfl, p⟩⟩
@[simp] theorem brS_true {m n : M α} {P : Kt α} : brS true m n S P ↔ wq m S P := ⟨fun h => h.1 rfl, fun a => ⟨fun _ => a, fun q => (by cases q)⟩⟩
@[simp] theorem brS_false {m n : M α} {P : Kt α} : brS false m n S P ↔ wq n S P := ⟨fun h => h.2 rfl, fun a => ⟨fun q => (by cases q), fun _ => a⟩⟩
@[simp] theorem gdS_eq {b : Bool} {P : Sto → Prop} : gdS b S P ↔ b = true ∧ P S := Iff.rfl
@[simp] theorem blE_bl {b : Bool} {P : Kt Bool} : blE (.bl b) S P ↔ P b S := ⟨fun ⟨_, e, p⟩ => by cases e; exact p, fun p => ⟨b, rfl, p⟩⟩
@[simp] theorem inE_int {b : Int} {P : Kt Int} : inE (.int b) S P ↔ P b S := ⟨fun ⟨_, e, p⟩ => by cases e; exact p, fun p => ⟨b, rfl, p⟩⟩
@[simp] theorem obE_obj {c : Nat} {fs : List (Str × PV)} {P : Kt (List (Str × PV))} : obE c (.obj c fs) S P ↔ P fs S := ⟨fun ⟨_, e, p⟩ => by cases e; exact p, fun p => ⟨fs, rfl, p⟩⟩
theorem brS_intro {b : Bool} {m n : M α} {P : Kt α} (h1 : b = true → wq m S P) (h2 : b = false → wq n S P) : brS b m n S P := ⟨h1, h2⟩
end
/-! stores -/
def pkO : Option (Option SV) → Option PV
  | some (some (.p x)) => some x
  | some (some (.o x)) => some x
  | some (some (.i x)) => some x
  | _ => none
@[simp] theorem pkO_p {x : PV} : pkO (some (some (.p x))) = some x := rfl
@[simp] theorem pkO_o {x : PV} : pkO (some (some (.o x))) = some x := rfl
@[simp] theorem pkO_i {x : PV} : pkO (some (some (.i x))) = some x := rfl
theorem pk_eq {i : Nat} {S : Sto} : pk i S = pkO S[i]? := by
  unfold pk pkO
  rfl
def rdV (o : Option (Option SV)) (i : Nat) (S : Sto) (P : Kt PV) : Prop := match o with
  | some (some (.p x)) => P x S
  | some (some (.o x)) => P x (S.set i (some (.p x)))
  | _ => False
@[simp] theorem rdV_p {x : PV} {i : Nat} {S : Sto} {P : Kt PV} : rdV (some (some (.p x))) i S P ↔ P x S := Iff.rfl
@[simp] theorem rdV_o {x : PV} {i : Nat} {S : Sto} {P : Kt PV} : rdV (some (some (.o x))) i S P ↔ P x (S.set i (some (.p x))) := Iff.rfl
def okPut : Option (Option SV) → Bool
  | some none => true
  | some (some (.p _)) => true
  | some (some (.o _)) => true
  | _ => false
@[simp] theorem okPut_n : okPut (some none) = true := rfl
@[simp] theorem okPut_p {x : PV} : okPut (some (some (.p x))) = true := rfl
@[simp] theorem okPut_o {x : PV} : okPut (some (some (.o x))) = true := rfl
theorem okPut_iff {o : Option (Option SV)} : okPut o = true ↔ o = some none ∨ (∃ y, o = some (some (.p y))) ∨ ∃ y, o = some (some (.o y)) := by
  cases o with
  | none => simp [okPut]
  | some o =>
    cases o with
    | none => simp [okPut]
    | some v => cases v <;> simp [okPut]
def ioO : Option (Option SV) → Bool
  | some (some (.o _)) => true
  | some (some (.i _)) => true
  | _ => false
@[simp] theorem ioO_o {x : PV} : ioO (some (some (.o x))) = true := rfl
@[simp] theorem ioO_i {x : PV} : ioO (some (some (.i x))) = true := rfl
theorem isO_eq {i : Nat} {S : Sto} : isO i S = ioO S[i]? := by
  unfold isO ioO
  rfl
def isOTO (T : String) : Option (Option SV) → Bool
  | some (some (.o (.lst _))) => T == "list"
  | some (some (.i (.lst _))) => T == "list"
  | some (some (.o (.dct _))) => T == "dict"
  | some (some (.i (.dct _))) => T == "dict"
  | _ => false
theorem isOT_eq {T : String} {i : Nat} {S : Sto} : isOT T i S = isOTO T S[i]? := by
  unfold isOT isOTO
  rfl
@[simp] theorem isOTO_ol {xs : List PV} : isOTO "list" (some (some (.o (.lst xs)))) = true := rfl
@[simp] theorem isOTO_il {xs : List PV} : isOTO "list" (some (some (.i (.lst xs)))) = true := rfl
@[simp] theorem isOTO_od {xs : List (PV × PV)} : isOTO "dict" (some (some (.o (.dct xs)))) = true := rfl
@[simp] theorem isOTO_id {xs : List (PV × PV)} : isOTO "dict" (some (some (.i (.dct xs)))) = true := rfl
/-- a slot's value becomes o's -/
def upB {α : Type} (own : Bool) (o : Option α) (g : α → PV) (i : Nat) (S : Sto) (P : Kt α) : Prop := ∃ y, o = some y ∧ P y (S.set i (some (if own = true then .o (g y) else .i (g y))))
@[simp] theorem upB_o {α : Type} {y : α} {g : α → PV} {i : Nat} {S : Sto} {P : Kt α} : upB true (some y) g i S P ↔ P y (S.set i (some (.o (g y)))) := ⟨fun ⟨_, e, p⟩ => by cases e; exact p, fun p => ⟨y, rfl, p⟩⟩
@[simp] theorem upB_i {α : Type} {y : α} {g : α → PV} {i : Nat} {S : Sto} {P : Kt α} : upB false (some y) g i S P ↔ P y (S.set i (some (.i (g y)))) := ⟨fun ⟨_, e, p⟩ => by cases e; exact p, fun p => ⟨y, rfl, p⟩⟩
def upO {α : Type} (o : Option (Option SV)) (f : PV → Option α) (g : α → PV) (i : Nat) (S : Sto) (P : Kt α) : Prop := match o with
  | some (some (.o x)) => upB true (f x) g i S P
  | some (some (.i x)) => upB false (f x) g i S P
  | _ => False
@[simp] theorem upO_o {α : Type} {x : PV} {f : PV → Option α} {g : α → PV} {i : Nat} {S : Sto} {P : Kt α} : upO (some (some (.o x))) f g i S P ↔ upB true (f x) g i S P := Iff.rfl
@[simp] theorem upO_i {α : Type} {x : PV} {f : PV → Option α} {g : α → PV} {i : Nat} {S : Sto} {P : Kt α} : upO (some (some (.i x))) f g i S P ↔ upB false (f x) g i S P := Iff.rfl
/-- .. behind a call -/
def inB (own : Bool) (o : Option (PV × RO)) (i : Nat) (S : Sto) (P : Kt PV) : Prop := ∃ y z, o = some (y, .ret z) ∧ P z (S.set i (some (if own = true then .o y else .i y)))
@[simp] theorem inB_o {y z : PV} {i : Nat} {S : Sto} {P : Kt PV} : inB true (some (y, .ret z)) i S P ↔ P z (S.set i (some (.o y))) := ⟨fun ⟨_, _, e, p⟩ => by cases e; exact p, fun p => ⟨y, z, rfl, p⟩⟩
@[simp] theorem inB_i {y z : PV} {i : Nat} {S : Sto} {P : Kt PV} : inB false (some (y, .ret z)) i S P ↔ P z (S.set i (some (.i y))) := ⟨fun ⟨_, _, e, p⟩ => by cases e; exact p, fun p => ⟨y, z, rfl, p⟩⟩
def inn (o : Option (Option SV)) (h : PV → Option (PV × RO)) (i : Nat) (S : Sto) (P : Kt PV) : Prop := match o with
  | some (some (.o x)) => inB true (h x) i S P
  | some (some (.i x)) => inB false (h x) i S P
  | _ => False
@[simp] theorem inn_o {x : PV} {f : PV → Option (PV × RO)} {i : Nat} {S : Sto} {P : Kt PV} : inn (some (some (.o x))) f i S P ↔ inB true (f x) i S P := Iff.rfl
@[simp] theorem inn_i {x : PV} {f : PV → Option (PV × RO)} {i : Nat} {S : Sto} {P : Kt PV} : inn (some (some (.i x))) f i S P ↔ inB false (f x) i S P := Iff.rfl
/-- what a maker leaves -/
def mkE : Option (PV × RO) → Option PV
  | some (x, .ret .non) => some x
  | _ => none
@[simp] theorem mkE_some {x : PV} : mkE (some (x, .ret .non)) = some x := rfl
section
variable {α β : Type} {S : Sto} {a : Option SV}
@[simp] theorem pk_c {i : Nat} : pk i (a :: S) = pkO (a :: S)[i]? := pk_eq
@[simp] theorem isO_c {i : Nat} : isO i (a :: S) = ioO (a :: S)[i]? := isO_eq
@[simp] theorem isOT_c {T : String} {i : Nat} : isOT T i (a :: S) = isOTO T (a :: S)[i]? := isOT_eq
@[simp] theorem e_ret {x : α} {P : Kt α} : wq (ret x) (a :: S) P ↔ P x (a :: S) := wq_ret
@[simp] theorem e_bnd {m : M α} {k : α → M β} {P : Kt β} : wq (bnd m k) (a :: S) P ↔ wq m (a :: S) fun x S1 => wq (k x) S1 P := wq_bnd
@[simp] theorem e_lift {o : Option α} {P : Kt α} : wq (lift o) (a :: S) P ↔ exS o (a :: S) P := wq_lift
@[simp] theorem e_mNx {P : Kt Fl} : wq (mNx) (a :: S) P ↔ P .nx (a :: S) := wq_ret
@[simp] theorem e_mRet {m : M PV} {P : Kt Fl} : wq (mRet m) (a :: S) P ↔ wq m (a :: S) fun x S1 => P (.rt x) S1 := wq_mRet
@[simp] theorem e_mDrop {m : M PV} {P : Kt Fl} : wq (mDrop m) (a :: S) P ↔ wq m (a :: S) fun x S1 => P .nx S1 := wq_mDrop
@[simp] theorem e_mSeq {m u : M Fl} {P : Kt Fl} : wq (mSeq m u) (a :: S) P ↔ wq m (a :: S) (aft u P) := wq_mSeq
@[simp] theorem e_mIf {c : M Bool} {m n : M Fl} {P : Kt Fl} : wq (mIf c m n) (a :: S) P ↔ wq c (a :: S) fun b S1 => brS b m n S1 P := wq_mIf
@[simp] theorem e_mIfE {c : M Bool} {m n : M PV} {P : Kt PV} : wq (mIfE c m n) (a :: S) P ↔ wq c (a :: S) fun b S1 => brS b m n S1 P := wq_mIfE
@[simp] theorem e_mK {x : PV} {P : Kt PV} : wq (mK x) (a :: S) P ↔ P x (a :: S) := wq_ret
@[simp] theorem e_mBin {g : PV → PV → Option PV} {ma mb : M PV} {P : Kt PV} : wq (mBin g ma mb) (a :: S) P ↔ wq ma (a :: S) fun x S1 => wq mb S1 fun y S2 => exS (g x y) S2 P := wq_mBin
@[simp] theorem e_mTest {m : M PV} {P : Kt Bool} : wq (mTest m) (a :: S) P ↔ wq m (a :: S) fun x S1 => blE x S1 P := wq_mTest
@[simp] theorem e_mTru {m : M PV} {P : Kt Bool} : wq (mTru m) (a :: S) P ↔ wq m (a :: S) fun x S1 => exS (truP x) S1 P := wq_mTru
@[simp] theorem e_mNot {m : M Bool} {P : Kt Bool} : wq (mNot m) (a :: S) P ↔ wq m (a :: S) fun x S1 => P (!x) S1 := wq_mNot
@[simp] theorem e_mB {m : M Bool} {P : Kt PV} : wq (mB m) (a :: S) P ↔ wq m (a :: S) fun x S1 => P (.bl x) S1 := wq_mB
@[simp] theorem e_mAnd {m n : M Bool} {P : Kt Bool} : wq (mAnd m n) (a :: S) P ↔ wq m (a :: S) fun x S1 => brS x n (ret false) S1 P := by
  rw [wq_mAnd]
  unfold brS
  simp only [wq_ret]
@[simp] theorem e_mOr {m n : M Bool} {P : Kt Bool} : wq (mOr m n) (a :: S) P ↔ wq m (a :: S) fun x S1 => brS x (ret true) n S1 P := by
  rw [wq_mOr]
  unfold brS
  simp only [wq_ret]
@[simp] theorem e_mArgs_nil {P : Kt (List PV)} : wq (mArgs []) (a :: S) P ↔ P [] (a :: S) := wq_ret
@[simp] theorem e_mArgs_cons {m : M PV} {ms : List (M PV)} {P : Kt (List PV)} : wq (mArgs (m :: ms)) (a :: S) P ↔ wq m (a :: S) fun x S1 => wq (mArgs ms) S1 fun xs S2 => P (x :: xs) S2 := wq_mArgs_cons
@[simp] theorem e_mTup {ms : List (M PV)} {P : Kt PV} : wq (mTup ms) (a :: S) P ↔ wq (mArgs ms) (a :: S) fun xs S1 => P (.tup xs) S1 := wq_mTup
@[simp] theorem e_mLst {ms : List (M PV)} {P : Kt PV} : wq (mLst ms) (a :: S) P ↔ wq (mArgs ms) (a :: S) fun xs S1 => P (.lst xs) S1 := wq_mLst
@[simp] theorem e_mCB {g : List PV → Option PV} {ms : List (M PV)} {P : Kt PV} : wq (mCB g ms) (a :: S) P ↔ wq (mArgs ms) (a :: S) fun xs S1 => exS (g xs) S1 P := wq_mCB
@[simp] theorem e_mUn {g : PV → Option PV} {m : M PV} {P : Kt PV} : wq (mUn g m) (a :: S) P ↔ wq m (a :: S) fun x S1 => exS (g x) S1 P := wq_mUn
@[simp] theorem e_mLenO {c : Nat} {f : List PV → Option RO} {m : M PV} {P : Kt PV} : wq (mLenO c f m) (a :: S) P ↔ wq m (a :: S) fun x S1 => exS (pLenO c f x) S1 P := wq_mLenO
@[simp] theorem e_mIsa {ans : PV → Option Bool} {m : M PV} {P : Kt PV} : wq (mIsa ans m) (a :: S) P ↔ wq m (a :: S) fun x S1 => exS (ans x) S1 fun b S2 => P (.bl b) S2 := wq_mIsa
@[simp] theorem e_mIsN {n : Bool} {m : M PV} {P : Kt PV} : wq (mIsN n m) (a :: S) P ↔ wq m (a :: S) fun x S1 => P (isN n x) S1 := wq_mIsN
@[simp] theorem e_roM {o : Option RO} {P : Kt PV} : wq (roM o) (a :: S) P ↔ exR o (a :: S) P := wq_roM
@[simp] theorem e_mCall {f : List PV → Option RO} {ms : List (M PV)} {P : Kt PV} : wq (mCall f ms) (a :: S) P ↔ wq (mArgs ms) (a :: S) fun xs S1 => exR (f xs) S1 P := wq_mCall
@[simp] theorem e_roQ {o : Option RO} {P : Kt PV} : wq (roQ o) (a :: S) P ↔ exR o (a :: S) P := wq_roQ
@[simp] theorem e_mCMeth {c : Nat} {f : List PV → Option RO} {ms : List (M PV)} {P : Kt PV} : wq (mCMeth c f ms) (a :: S) P ↔ wq (mArgs ms) (a :: S) fun xs S1 => exR (f (.glb c :: xs)) S1 P := wq_mCMeth
@[simp] theorem e_mVar {i : Nat} {P : PV → Sto → Prop} : wq (mVar i) (a :: S) P ↔ rdV (a :: S)[i]? i (a :: S) P := by
  rw [wq_mVar]
  constructor
  · rintro (⟨x, h, p⟩ | ⟨x, h, p⟩) <;> rw [h] <;> exact p
  · intro h
    cases e : (a :: S)[i]? with
    | none => rw [e] at h; exact h.elim
    | some o =>
      rw [e] at h
      cases o with
      | none => exact h.elim
      | some v =>
        cases v with
        | p x => exact .inl ⟨x, rfl, h⟩
        | o x => exact .inr ⟨x, rfl, h⟩
        | i x => exact h.elim
@[simp] theorem e_put {i : Nat} {x : PV} {P : Kt Unit} : wq (put i x) (a :: S) P ↔ gdS (okPut (a :: S)[i]?) (a :: S) fun S1 => P () (S1.set i (some (.p x))) := by
  rw [wq_put, ← okPut_iff]
  rfl
@[simp] theorem e_putO {i : Nat} {x : PV} {P : Kt Unit} : wq (putO i x) (a :: S) P ↔ gdS (okPut (a :: S)[i]?) (a :: S) fun S1 => P () (S1.set i (some (.o x))) := by
  rw [wq_putO, ← okPut_iff]
  rfl
@[simp] theorem e_mSet {i : Nat} {m : M PV} {P : Kt Fl} : wq (mSet i m) (a :: S) P ↔ wq m (a :: S) fun x S1 => wq (put i x) S1 fun _ S2 => P .nx S2 := wq_mSet
@[simp] theorem e_mSetO {i : Nat} {m : M PV} {P : Kt Fl} : wq (mSetO i m) (a :: S) P ↔ wq m (a :: S) fun x S1 => wq (putO i x) S1 fun _ S2 => P .nx S2 := wq_mSetO
@[simp] theorem e_mDct {P : Kt PV} : wq (mDct) (a :: S) P ↔ P (.dct []) (a :: S) := wq_ret
theorem g_guardPk {i : Nat} {m : M α} {P : Kt α} : wq (guardPk i m) S P ↔ exS (pk i S) S fun _ S1 => wq m S1 P := by
  rw [wq_guardPk]
  exact ⟨fun ⟨⟨x, h⟩, q⟩ => ⟨x, h, q⟩, fun ⟨x, h, q⟩ => ⟨⟨x, h⟩, q⟩⟩
theorem g_opk {i : Nat} {f : PV → Option PV} {P : Kt PV} : wq (opk i f) S P ↔ exS (pk i S) S fun x S1 => exS (f x) S1 fun z S2 => gdS z.atom S2 fun S3 => P z S3 := by
  rw [wq_opk]
  exact ⟨fun ⟨x, z, a, b, c, d⟩ => ⟨x, a, z, b, c, d⟩, fun ⟨x, a, z, b, c, d⟩ => ⟨x, z, a, b, c, d⟩⟩
@[simp] theorem e_guardPk {i : Nat} {m : M α} {P : Kt α} : wq (guardPk i m) (a :: S) P ↔ exS (pk i (a :: S)) (a :: S) fun _ S1 => wq m S1 P := g_guardPk
@[simp] theorem e_opk {i : Nat} {f : PV → Option PV} {P : Kt PV} : wq (opk i f) (a :: S) P ↔ exS (pk i (a :: S)) (a :: S) fun x S1 => exS (f x) S1 fun z S2 => gdS z.atom S2 fun S3 => P z S3 := g_opk
@[simp] theorem e_mCBV {g : List PV → Option PV} {i : Nat} {P : Kt PV} : wq (mCBV g i) (a :: S) P ↔ exS (pk i (a :: S)) (a :: S) fun x S1 => exS (g [x]) S1 fun z S2 => gdS z.atom S2 fun S3 => P z S3 := g_opk
@[simp] theorem e_mBinL {g : PV → PV → Option PV} {i : Nat} {mb : M PV} {P : Kt PV} : wq (mBinL g i mb) (a :: S) P ↔ wq (guardPk i (bnd mb fun y => opk i fun x => g x y)) (a :: S) P := Iff.rfl
@[simp] theorem e_mBinR {g : PV → PV → Option PV} {i : Nat} {ma : M PV} {P : Kt PV} : wq (mBinR g ma i) (a :: S) P ↔ wq ma (a :: S) fun x S1 => wq (opk i fun y => g x y) S1 P := wq_bnd
@[simp] theorem e_mIxV {i : Nat} {mk : M PV} {P : Kt PV} : wq (mIxV i mk) (a :: S) P ↔ exS (pk i (a :: S)) (a :: S) fun _ S0 => wq mk S0 fun y S1 => exS (pk i S1) S1 fun x S2 => exS (pIx x y) S2 P := by
  rw [wq_mIxV]
  constructor
  · rintro ⟨⟨x, h⟩, y, S1, e, x1, z, a, b, c⟩
    exact ⟨x, h, y, S1, e, x1, a, z, b, c⟩
  · rintro ⟨x, h, y, S1, e, x1, a, z, b, c⟩
    exact ⟨⟨x, h⟩, y, S1, e, x1, z, a, b, c⟩
@[simp] theorem e_mFldV {i c : Nat} {f : Str} {P : Kt PV} : wq (mFldV i c f) (a :: S) P ↔ exS (pk i (a :: S)) (a :: S) fun x S1 => exS (pFld c f x) S1 P := by
  rw [wq_mFldV]
  exact ⟨fun ⟨x, z, a, b, c⟩ => ⟨x, a, z, b, c⟩, fun ⟨x, a, z, b, c⟩ => ⟨x, z, a, b, c⟩⟩
@[simp] theorem e_mTruV {i : Nat} {P : Kt Bool} : wq (mTruV i) (a :: S) P ↔ exS (pk i (a :: S)) (a :: S) fun x S1 => exS (truP x) S1 P := by
  rw [wq_mTruV]
  exact ⟨fun ⟨x, z, a, b, c⟩ => ⟨x, a, z, b, c⟩, fun ⟨x, a, z, b, c⟩ => ⟨x, z, a, b, c⟩⟩
theorem g_updO {i : Nat} {f : PV → Option PV} {P : Kt Unit} : wq (updO i f) S P ↔ upO S[i]? f id i S (fun _ => P ()) := by
  rw [wq_updO]
  constructor
  · rintro (⟨x, y, h, e, p⟩ | ⟨x, y, h, e, p⟩) <;> rw [h] <;> exact ⟨y, e, p⟩
  · intro h
    cases e : S[i]? with
    | none => rw [e] at h; exact h.elim
    | some o =>
      rw [e] at h
      cases o with
      | none => exact h.elim
      | some v =>
        cases v with
        | p x => exact h.elim
        | o x => obtain ⟨y, a, b⟩ := h; exact .inl ⟨x, y, rfl, a, b⟩
        | i x => obtain ⟨y, a, b⟩ := h; exact .inr ⟨x, y, rfl, a, b⟩
theorem g_updR {i : Nat} {f : PV → Option (PV × PV)} {P : Kt PV} : wq (updR i f) S P ↔ upO S[i]? f Prod.fst i S (fun y => P y.2) := by
  rw [wq_updR]
  constructor
  · rintro (⟨x, y, z, h, e, p⟩ | ⟨x, y, z, h, e, p⟩) <;> rw [h] <;> exact ⟨(y, z), e, p⟩
  · intro h
    cases e : S[i]? with
    | none => rw [e] at h; exact h.elim
    | some o =>
      rw [e] at h
      cases o with
      | none => exact h.elim
      | some v =>
        cases v with
        | p x => exact h.elim
        | o x => obtain ⟨⟨y, z⟩, a, b⟩ := h; exact .inl ⟨x, y, z, rfl, a, b⟩
        | i x => obtain ⟨⟨y, z⟩, a, b⟩ := h; exact .inr ⟨x, y, z, rfl, a, b⟩
theorem g_mIn {i : Nat} {f : PV → Option (PV × RO)} {P : Kt PV} : wq (mIn i f) S P ↔ inn S[i]? f i S P := by
  rw [wq_mIn]
  constructor
  · rintro (⟨x, y, z, h, e, p⟩ | ⟨x, y, z, h, e, p⟩) <;> rw [h] <;> exact ⟨y, z, e, p⟩
  · intro h
    cases e : S[i]? with
    | none => rw [e] at h; exact h.elim
    | some o =>
      rw [e] at h
      cases o with
      | none => exact h.elim
      | some v =>
        cases v with
        | p x => exact h.elim
        | o x => obtain ⟨y, z, a, b⟩ := h; exact .inl ⟨x, y, z, rfl, a, b⟩
        | i x => obtain ⟨y, z, a, b⟩ := h; exact .inr ⟨x, y, z, rfl, a, b⟩
@[simp] theorem e_updO {i : Nat} {f : PV → Option PV} {P : Kt Unit} : wq (updO i f) (a :: S) P ↔ upO (a :: S)[i]? f id i (a :: S) (fun _ => P ()) := g_updO
@[simp] theorem e_updR {i : Nat} {f : PV → Option (PV × PV)} {P : Kt PV} : wq (updR i f) (a :: S) P ↔ upO (a :: S)[i]? f Prod.fst i (a :: S) (fun y => P y.2) := g_updR
@[simp] theorem e_mIn {i : Nat} {f : PV → Option (PV × RO)} {P : Kt PV} : wq (mIn i f) (a :: S) P ↔ inn (a :: S)[i]? f i (a :: S) P := g_mIn
@[simp] theorem e_mPut {i : Nat} {mk me : M PV} {P : Kt Fl} : wq (mPut i mk me) (a :: S) P ↔ wq me (a :: S) fun v S1 => exS (pk i S1) S1 fun _ S2 => wq mk S2 fun k S3 => wq (updO i fun x => pPut x k v) S3 fun _ S4 => P .nx S4 := by
  rw [wq_mPut]
  constructor
  · rintro ⟨v, S1, e, ⟨x, h⟩, q⟩
    exact ⟨v, S1, e, x, h, q⟩
  · rintro ⟨v, S1, e, x, h, q⟩
    exact ⟨v, S1, e, ⟨x, h⟩, q⟩
@[simp] theorem e_mSetF {i c : Nat} {f : Str} {me : M PV} {P : Kt Fl} : wq (mSetF i c f me) (a :: S) P ↔ wq me (a :: S) fun v S1 => wq (updO i (pSetF c f v)) S1 fun _ S2 => P .nx S2 := wq_mSetF
@[simp] theorem e_mMt {T : String} {i : Nat} {f : PV → List PV → Option (PV × PV)} {ms : List (M PV)} {P : Kt PV} : wq (mMt T i f ms) (a :: S) P ↔ gdS (isOT T i (a :: S)) (a :: S) fun S0 => wq (mArgs ms) S0 fun xs S1 => wq (updR i fun x => f x xs) S1 P := wq_mMt
@[simp] theorem e_mApp {i : Nat} {m : M PV} {P : Kt Fl} : wq (mApp i m) (a :: S) P ↔ gdS (isOT "list" i (a :: S)) (a :: S) fun S0 => wq m S0 fun x S1 => wq (updR i fun l => fApp l [x]) S1 fun _ S2 => P .nx S2 := wq_mApp
@[simp] theorem e_mCallI {i : Nat} {f : PV → List PV → Option (PV × RO)} {ms : List (M PV)} {P : Kt PV} : wq (mCallI i f ms) (a :: S) P ↔ gdS (isO i (a :: S)) (a :: S) fun S0 => wq (mArgs ms) S0 fun xs S1 => wq (mIn i fun x => f x xs) S1 P := wq_mCallI
theorem g_mkM {h : PV → Option (PV × RO)} {c : Nat} {P : Kt PV} : wq (mkM h c) S P ↔ exS (mkE (h (.obj c []))) S P := by
  rw [wq_mkM]
  constructor
  · rintro ⟨x, e, q⟩
    exact ⟨x, by rw [e]; rfl, q⟩
  · rintro ⟨x, e, q⟩
    unfold mkE at e
    split at e
    · rename_i u hu
      cases e
      exact ⟨x, hu, q⟩
    · cases e
@[simp] theorem e_mMake {c : Nat} {f : PV → List PV → Option (PV × RO)} {ms : List (M PV)} {P : Kt PV} : wq (mMake c f ms) (a :: S) P ↔ wq (mArgs ms) (a :: S) fun xs S1 => exS (mkE (f (.obj c []) xs)) S1 P := by
  unfold mMake
  rw [wq_bnd]
  simp only [g_mkM]
@[simp] theorem e_mMake0 {c : Nat} {f : PV → List PV → Option (PV × RO)} {ds : List PV} {P : Kt PV} : wq (mMake0 c f ds) (a :: S) P ↔ exS (mkE (f (.obj c []) ds)) (a :: S) P := g_mkM
@[simp] theorem e_mMakeV {i c : Nat} {f : PV → List PV → Option (PV × RO)} {ms : List (M PV)} {P : Kt PV} : wq (mMakeV i c f ms) (a :: S) P ↔ (a :: S)[i]? = some (some (.p (.glb c))) ∧ wq (mMake c f ms) (a :: S) P := wq_mMakeV
@[simp] theorem e_mMeth {c : Nat} {m : Str} {f : List PV → Option RO} {mo : M PV} {ms : List (M PV)} {P : Kt PV} : wq (mMeth c m f mo ms) (a :: S) P ↔ wq mo (a :: S) fun x S1 => obE c x S1 fun fs S2 => gdS (fs.lookup m).isNone S2 fun S3 => wq (mArgs ms) S3 fun xs S4 => exR (f (.obj c fs :: xs)) S4 P := by
  rw [wq_mMeth]
  constructor
  · rintro ⟨x, S1, e, fs, rfl, h, q⟩
    exact ⟨_, S1, e, fs, rfl, by rw [h]; rfl, q⟩
  · rintro ⟨x, S1, e, fs, rfl, h, q⟩
    refine ⟨_, S1, e, fs, rfl, ?_, q⟩
    cases z : fs.lookup m with
    | none => rfl
    | some v => rw [z] at h; cases h
@[simp] theorem e_mCallO {c : Nat} {f : List PV → Option RO} {mo : M PV} {ms : List (M PV)} {P : Kt PV} : wq (mCallO c f mo ms) (a :: S) P ↔ wq mo (a :: S) fun x S1 => obE c x S1 fun fs S2 => wq (mArgs ms) S2 fun xs S3 => exR (f (.obj c fs :: xs)) S3 P := wq_mCallO
@[simp] theorem e_mNoB {P : Kt (Option Int)} : wq (mNoB) (a :: S) P ↔ P none (a :: S) := wq_ret
@[simp] theorem e_mBd {m : M PV} {P : Kt (Option Int)} : wq (mBd m) (a :: S) P ↔ wq m (a :: S) fun x S1 => inE x S1 fun i S2 => P (some i) S2 := wq_mBd
@[simp] theorem e_mSl {m : M PV} {lo hi : M (Option Int)} {P : Kt PV} : wq (mSl m lo hi) (a :: S) P ↔ wq m (a :: S) fun x S1 => wq lo S1 fun u S2 => wq hi S2 fun v S3 => exS (pSl x u v) S3 P := wq_mSl
@[simp] theorem e_mRng1 {m : M PV} {P : Kt (List PV)} : wq (mRng1 m) (a :: S) P ↔ wq m (a :: S) fun x S1 => inE x S1 fun j S2 => gdS (inR j) S2 fun S3 => P (rangeP 0 j.toNat) S3 := wq_mRng1
@[simp] theorem e_mRng2 {m n : M PV} {P : Kt (List PV)} : wq (mRng2 m n) (a :: S) P ↔ wq m (a :: S) fun x S1 => wq n S1 fun y S2 => inE x S2 fun i S3 => inE y S3 fun j S4 => gdS (inR i) S4 fun S5 => gdS (inR j) S5 fun S6 => P (rangeP i (j - i).toNat) S6 := by
  rw [wq_mRng2]
  constructor
  · rintro ⟨x, S1, e, y, S2, e2, i, j, a, b, c, d, q⟩
    exact ⟨x, S1, e, y, S2, e2, i, a, j, b, c, d, q⟩
  · rintro ⟨x, S1, e, y, S2, e2, i, a, j, b, c, d, q⟩
    exact ⟨x, S1, e, y, S2, e2, i, j, a, b, c, d, q⟩
@[simp] theorem itA_lst {xs : List PV} : itA (.lst xs) = some xs := rfl
@[simp] theorem itA_tup {xs : List PV} : itA (.tup xs) = some xs := rfl
@[simp] theorem itA_str {z : Str} : itA (.str z) = some (charsP z) := rfl
@[simp] theorem itA_frl {ns : List Int} : itA (.frl ns) = some (ns.map PV.int) := rfl
@[simp] theorem e_mIterA {m : M PV} {P : Kt (List PV)} : wq (mIterA m) (a :: S) P ↔ wq m (a :: S) fun x S1 => exS (itA x) S1 P := wq_mIterA
@[simp] theorem e_mFor {mi : M (List PV)} {g : PV → Sto → Option Sto} {m : M Fl} {P : Kt Fl} : wq (mFor mi g m) (a :: S) P ↔ wq mi (a :: S) fun ys S1 => wq (loop g m ys) S1 P := wq_mFor
@[simp] theorem e_mChain {g g' : PV → PV → Option PV} {ma mb mc : M PV} {P : Kt PV} : wq (mChain g g' ma mb mc) (a :: S) P ↔ wq ma (a :: S) fun x S1 => wq mb S1 fun y S2 => exS (g x y) S2 fun u S3 => blE u S3 fun b S4 => brS b (bnd mc fun u => lift (g' y u)) (ret (.bl false)) S4 P := by
  have h : ∀ (y : PV) (b : Bool) (S : Sto), ((b = true → wq mc S fun u S3 => ∃ z, g' y u = some z ∧ P z S3) ∧ (b = false → P (.bl false) S)) ↔ brS b (bnd mc fun u => lift (g' y u)) (ret (.bl false)) S P := by
    intro y b S
    unfold brS
    simp only [wq_bnd, wq_lift, wq_ret]
  rw [wq_mChain]
  constructor
  · rintro ⟨x, S1, e, y, S2, e2, b, h1, q⟩
    exact ⟨x, S1, e, y, S2, e2, _, h1, b, rfl, (h y b S2).mp q⟩
  · rintro ⟨x, S1, e, y, S2, e2, _, h1, b, rfl, q⟩
    exact ⟨x, S1, e, y, S2, e2, b, h1, (h y b S2).mpr q⟩
@[simp] theorem e_mGet2 {mo mk md : M PV} {P : Kt PV} : wq (mGet2 mo mk md) (a :: S) P ↔ wq mo (a :: S) fun x S1 => gdS (isDct x) S1 fun S2 => wq mk S2 fun k S3 => wq md S3 fun d S4 => exS (pGet x k d) S4 P := wq_mGet2
@[simp] theorem e_mBinS {g : PV → PV → Option PV} {mo me : M PV} {P : Kt PV} : wq (mBinS g mo me) (a :: S) P ↔ wq mo (a :: S) fun x S1 => gdS (isStr x) S1 fun S2 => wq me S2 fun y S3 => exS (g x y) S3 P := wq_mBinS
@[simp] theorem e_mAsg {m : M PV} {g : PV → Sto → Option Sto} {P : Kt Fl} : wq (mAsg m g) (a :: S) P ↔ wq m (a :: S) fun x S1 => ∃ S2, g x S1 = some S2 ∧ P .nx S2 := wq_mAsg
/-- the turns of a comprehension -/
def lcE (o : Option (List PV × Sto)) (P : Kt (List PV)) : Prop := ∃ zs S2, o = some (zs, S2) ∧ P zs S2
@[simp] theorem lcE_some {zs : List PV} {S2 : Sto} {P : Kt (List PV)} : lcE (some (zs, S2)) P ↔ P zs S2 := ⟨fun ⟨_, _, e, p⟩ => by cases e; exact p, fun p => ⟨zs, S2, rfl, p⟩⟩
theorem lcE_of {o : Option (List PV × Sto)} {zs : List PV} {S2 : Sto} {P : Kt (List PV)} (h : o = some (zs, S2)) (k : P zs S2) : lcE o P := ⟨zs, S2, h, k⟩
theorem lcGo_mapf {β : Type} {vs : List Nat} {g : PV → Sto → Option Sto} {mt : M Bool} {me : M PV} (xs : List β) (φ : β → PV) (t : β → Bool) (f : β → PV)
    (h : ∀ b ∈ xs, ∃ S1, g (φ b) S = some S1 ∧ wq mt S1 fun c S2 => c = t b ∧ (c = true → wq me S2 fun z S3 => z = f b ∧ wipeS S3 vs = S) ∧ (c = false → wipeS S2 vs = S)) : lcGo vs g mt me (xs.map φ) S = some ((xs.filter t).map f, S) := by
  induction xs with
  | nil => rfl
  | cons y ys ih =>
    obtain ⟨S1, e1, b, S2, e2, eb, qt, qf⟩ := h y List.mem_cons_self
    have ih' := ih fun z hz => h z (List.mem_cons_of_mem _ hz)
    rw [List.map_cons]
    cases b with
    | true =>
      obtain ⟨z, S3, e3, ez, ew⟩ := qt rfl
      unfold lcGo
      rw [e1]
      dsimp only
      rw [e2]
      dsimp only
      rw [e3]
      dsimp only
      rw [ew, ih']
      dsimp only
      rw [List.filter_cons, ← eb, if_pos rfl, List.map_cons, ez]
    | false =>
      unfold lcGo
      rw [e1]
      dsimp only
      rw [e2]
      dsimp only
      rw [qf rfl, ih', List.filter_cons, ← eb, if_neg Bool.false_ne_true]
/-- with an invariant -/
theorem lcE_inv {vs : List Nat} {g : PV → Sto → Option Sto} {mt : M Bool} {me : M PV} {ys : List PV} {S : Sto} {P : Kt (List PV)} (I : List PV → List PV → Sto → Prop)
    (h0 : I ys [] S)
    (h1 : ∀ y ys acc S, I (y :: ys) acc S → ∃ S1, g y S = some S1 ∧ wq mt S1 fun b S2 => (b = true → wq me S2 fun z S3 => I ys (acc ++ [z]) (wipeS S3 vs)) ∧ (b = false → I ys acc (wipeS S2 vs)))
    (h2 : ∀ acc S, I [] acc S → P acc S) : lcE (lcGo vs g mt me ys S) P := by
  obtain ⟨zs, S', e, q⟩ := lcGo_inv I h1 h0
  exact ⟨zs, S', e, h2 _ _ q⟩
@[simp] theorem e_mLc {vs : List Nat} {mi : M (List PV)} {g : PV → Sto → Option Sto} {mt : M Bool} {me : M PV} {P : Kt PV} : wq (mLc vs mi g mt me) (a :: S) P ↔ wq mi (a :: S) fun ys S1 => gdS (decide (ys.length ≤ sizeLine)) S1 fun S2 => gdS (plainAt S2 vs) S2 fun S3 => lcE (lcGo vs g mt me ys (wipeS S3 vs)) fun zs S4 => P (.lst zs) (backS S3 S4 vs) := by
  rw [wq_mLc]
  constructor
  · rintro ⟨ys, S1, e, a, b, q⟩
    exact ⟨ys, S1, e, decide_eq_true a, b, q⟩
  · rintro ⟨ys, S1, e, a, b, q⟩
    exact ⟨ys, S1, e, of_decide_eq_true a, b, q⟩
@[simp] theorem e_mYes {P : Kt Bool} : wq mYes (a :: S) P ↔ P true (a :: S) := wq_ret
@[simp] theorem e_aft_nx {u : M Fl} {P : Kt Fl} : aft u P .nx S ↔ wq u S P := Iff.rfl
@[simp] theorem e_aft_rt {u : M Fl} {P : Kt Fl} {y : PV} : aft u P (.rt y) S ↔ P (.rt y) S := Iff.rfl
@[simp] theorem e_aft_bk {u : M Fl} {P : Kt Fl} : aft u P .bk S ↔ P .bk S := Iff.rfl
@[simp] theorem e_aft_ct {u : M Fl} {P : Kt Fl} : aft u P .ct S ↔ P .ct S := Iff.rfl
@[simp] theorem e_trn_nx {k : Sto → Prop} {P : Kt Fl} : trn k P .nx S ↔ k S := Iff.rfl
@[simp] theorem e_trn_ct {k : Sto → Prop} {P : Kt Fl} : trn k P .ct S ↔ k S := Iff.rfl
@[simp] theorem e_trn_bk {k : Sto → Prop} {P : Kt Fl} : trn k P .bk S ↔ P .nx S := Iff.rfl
@[simp] theorem e_trn_rt {k : Sto → Prop} {P : Kt Fl} {y : PV} : trn k P (.rt y) S ↔ P (.rt y) S := Iff.rfl
@[simp] theorem e_rtP_rt {P : PV → Prop} {y : PV} : rtP P (.rt y) S ↔ P y := Iff.rfl
@[simp] theorem e_rtP_nx {P : PV → Prop} : rtP P .nx S ↔ P .non := Iff.rfl
@[simp] theorem e_rtI_rt {P : PV → PV → Prop} {x y : PV} : rtI P (.rt y) (some (.i x) :: S) ↔ P x y := Iff.rfl
@[simp] theorem e_rtI_nx {P : PV → PV → Prop} {x : PV} : rtI P .nx (some (.i x) :: S) ↔ P x .non := Iff.rfl
@[simp] theorem gN_c {i : Nat} {x : PV} : gN i x (a :: S) = if okPut (a :: S)[i]? = true then some ((a :: S).set i (some (.p x))) else none := by
  unfold gN put
  cases e : (a :: S)[i]? with
  | none => simp [okPut]
  | some o =>
    cases o with
    | none => simp [okPut]
    | some v => cases v <;> simp [okPut]
@[simp] theorem wipeS_c1 {v : Nat} : wipeS (a :: S) [v] = (a :: S).set v none := rfl
@[simp] theorem backS_c1 {b : Option SV} {S2 : Sto} {v : Nat} : backS (a :: S) (b :: S2) [v] = (b :: S2).set v ((a :: S)[v]?.join) := rfl
@[simp] theorem plainAt_c1 {v : Nat} : plainAt (a :: S) [v] = (match (a :: S)[v]? with
  | some (some (.o _)) => false
  | some (some (.i _)) => false
  | none => false
  | _ => true) := by
  unfold plainAt
  simp only [List.all_cons, List.all_nil, Bool.and_true]
  all_goals rfl
end
end Kp
set_option Elab.async false
set_option linter.all false
set_option maxRecDepth 100000
set_option maxHeartbeats 4000000
namespace Kp
open PySem L2
/-! ### the operations at plain values -/
/-- a text's letters -/
def tx (w : Str) : List Nat := w.cps.toList
theorem szL : sizeLine = 16777216 := by decide
theorem atN {α : Type} {xs : List α} {k : Nat} : atI xs (k : Int) = xs[k]? := by
  unfold atI ixN
  rw [if_pos (Int.natCast_nonneg k)]
  by_cases h : (k : Int) < (xs.length : Int)
  · rw [if_pos h]
    rfl
  · rw [if_neg h]
    have : xs.length ≤ k := by omega
    rw [List.getElem?_eq_none this]
    rfl
theorem atI_int {α : Type} {xs : List α} {k : Int} (h : 0 ≤ k) : atI xs k = xs[k.toNat]? := by
  obtain ⟨n, rfl⟩ := Int.eq_ofNat_of_zero_le h
  rw [atN]
  rfl
@[simp] theorem atI_0 {α : Type} {xs : List α} : atI xs 0 = xs[0]? := atN (k := 0)
@[simp] theorem atI_1 {α : Type} {xs : List α} : atI xs 1 = xs[1]? := atN (k := 1)
@[simp] theorem atI_2 {α : Type} {xs : List α} : atI xs 2 = xs[2]? := atN (k := 2)
@[simp] theorem atI_3 {α : Type} {xs : List α} : atI xs 3 = xs[3]? := atN (k := 3)
@[simp] theorem atI_4 {α : Type} {xs : List α} : atI xs 4 = xs[4]? := atN (k := 4)
@[simp] theorem atI_5 {α : Type} {xs : List α} : atI xs 5 = xs[5]? := atN (k := 5)
@[simp] theorem atI_6 {α : Type} {xs : List α} : atI xs 6 = xs[6]? := atN (k := 6)
@[simp] theorem atI_7 {α : Type} {xs : List α} : atI xs 7 = xs[7]? := atN (k := 7)
@[simp] theorem atI_8 {α : Type} {xs : List α} : atI xs 8 = xs[8]? := atN (k := 8)
@[simp] theorem atI_9 {α : Type} {xs : List α} : atI xs 9 = xs[9]? := atN (k := 9)
@[simp] theorem pIx_lst {xs : List PV} {k : Int} : pIx (.lst xs) (.int k) = atI xs k := rfl
@[simp] theorem pIx_tup {xs : List PV} {k : Int} : pIx (.tup xs) (.int k) = atI xs k := rfl
@[simp] theorem pIx_frl {xs : List Int} {k : Int} : pIx (.frl xs) (.int k) = (atI xs k).map PV.int := rfl
@[simp] theorem pIx_str {z : Str} {k : Int} : pIx (.str z) (.int k) = (atI (tx z) k).map fun c => .str ⟨#[c]⟩ := rfl
@[simp] theorem pIx_ds {kvs : List (PV × PV)} {s : Str} : pIx (.dct kvs) (.str s) = dGet kvs (.str s) := rfl
@[simp] theorem pLt_ii {i j : Int} : pLt (.int i) (.int j) = some (.bl (decide (i < j))) := rfl
@[simp] theorem pLt_ss {a b : Str} : pLt (.str a) (.str b) = some (.bl (decide (tx a < tx b))) := rfl
@[simp] theorem pGtI_ii {i j : Int} : pGtI (.int i) (.int j) = some (.bl (decide (j < i))) := rfl
@[simp] theorem pLeI_ii {i j : Int} : pLeI (.int i) (.int j) = some (.bl (decide (i ≤ j))) := rfl
@[simp] theorem pLeI_ss {a b : Str} : pLeI (.str a) (.str b) = some (.bl (!decide (tx b < tx a))) := rfl
@[simp] theorem pGeI_ii {i j : Int} : pGeI (.int i) (.int j) = some (.bl (decide (j ≤ i))) := rfl
theorem pEqB_ii {i j : Int} : pEqB (.int i) (.int j) = some (decide (i = j)) := by
  by_cases h : i = j <;> simp [pEqB, PV.isD, PV.dat, PyData.depth, PyData.eqv, h]
theorem pEqB_ss {i j : Str} : pEqB (.str i) (.str j) = some (decide (i = j)) := by
  by_cases h : i = j <;> simp [pEqB, PV.isD, PV.dat, PyData.depth, PyData.eqv, h]
@[simp] theorem pEq_ii {i j : Int} : pEq (.int i) (.int j) = some (.bl (decide (i = j))) := by
  unfold pEq
  rw [pEqB_ii]
  rfl
@[simp] theorem pNe_ii {i j : Int} : pNe (.int i) (.int j) = some (.bl (!decide (i = j))) := by
  unfold pNe
  rw [pEqB_ii]
  rfl
@[simp] theorem pEq_ss {i j : Str} : pEq (.str i) (.str j) = some (.bl (decide (i = j))) := by
  unfold pEq
  rw [pEqB_ss]
  rfl
@[simp] theorem pNe_ss {i j : Str} : pNe (.str i) (.str j) = some (.bl (!decide (i = j))) := by
  unfold pNe
  rw [pEqB_ss]
  rfl
@[simp] theorem pNe_bb {i j : Bool} : pNe (.bl i) (.bl j) = some (.bl (i != j)) := by
  cases i <;> cases j <;> rfl
@[simp] theorem pEq_bb {i j : Bool} : pEq (.bl i) (.bl j) = some (.bl (i == j)) := by
  cases i <;> cases j <;> rfl
@[simp] theorem pAdd_ii {i j : Int} : pAdd (.int i) (.int j) = some (.int (i + j)) := rfl
@[simp] theorem pAdd_ss {a b : Str} : pAdd (.str a) (.str b) = if a.length + b.length ≤ sizeLine then some (.str (a ++ b)) else none := rfl
@[simp] theorem pAdd_tt {a b : List PV} : pAdd (.tup a) (.tup b) = if a.length + b.length ≤ sizeLine then some (.tup (a ++ b)) else none := rfl
@[simp] theorem pAdd_ll {a b : List PV} : pAdd (.lst a) (.lst b) = if a.length + b.length ≤ sizeLine then some (.lst (a ++ b)) else none := rfl
@[simp] theorem pSub_ii {i j : Int} : pSub (.int i) (.int j) = some (.int (i - j)) := rfl
theorem pMul_ii {i j : Int} : pMul (.int i) (.int j) = if (decide (-(2 ^ 64) < i) && decide (i < 2 ^ 64)) || (decide (-(2 ^ 64) < j) && decide (j < 2 ^ 64)) then some (.int (i * j)) else none := rfl
theorem pMul_l {i j : Int} (h1 : -18446744073709551616 < i) (h2 : i < 18446744073709551616) : pMul (.int i) (.int j) = some (.int (i * j)) := by
  rw [pMul_ii, if_pos]
  have a : -(2 ^ 64 : Int) < i := by omega
  have b : i < (2 ^ 64 : Int) := by omega
  simp only [decide_eq_true a, decide_eq_true b, Bool.and_self, Bool.true_or]
theorem pMul_r {i j : Int} (h1 : -18446744073709551616 < j) (h2 : j < 18446744073709551616) : pMul (.int i) (.int j) = some (.int (i * j)) := by
  rw [pMul_ii, if_pos]
  have a : -(2 ^ 64 : Int) < j := by omega
  have b : j < (2 ^ 64 : Int) := by omega
  simp only [decide_eq_true a, decide_eq_true b, Bool.and_self, Bool.or_true]
theorem pMod_ii {i j : Int} (h : 0 < j) : pMod (.int i) (.int j) = some (.int (i % j)) := if_pos h
theorem pDiv_ii {i j : Int} (h : 0 < j) (h2 : j < 1073741824) : pDiv (.int i) (.int j) = some (.int (i / j)) := if_pos ⟨h, h2⟩
@[simp] theorem pAbs_i {i : Int} : pAbs [.int i] = some (.int (if i < 0 then -i else i)) := rfl
@[simp] theorem pInt_i {i : Int} : pInt [.int i] = some (.int i) := rfl
@[simp] theorem pInt_b {b : Bool} : pInt [.bl b] = some (.int (if b then 1 else 0)) := rfl
@[simp] theorem pLen_t {xs : List PV} : pLen [.tup xs] = some (.int xs.length) := rfl
@[simp] theorem pLen_l {xs : List PV} : pLen [.lst xs] = some (.int xs.length) := rfl
@[simp] theorem pLen_f {xs : List Int} : pLen [.frl xs] = some (.int xs.length) := rfl
@[simp] theorem pLen_s {z : Str} : pLen [.str z] = some (.int z.length) := rfl
@[simp] theorem atom_int {i : Int} : (PV.int i).atom = true := rfl
@[simp] theorem atom_str {i : Str} : (PV.str i).atom = true := rfl
@[simp] theorem atom_bl {i : Bool} : (PV.bl i).atom = true := rfl
@[simp] theorem atom_non : PV.non.atom = true := rfl
@[simp] theorem truP_bl {b : Bool} : truP (.bl b) = some b := rfl
@[simp] theorem truP_int {i : Int} : truP (.int i) = some (i != 0) := rfl
@[simp] theorem truP_non : truP .non = some false := rfl
@[simp] theorem truP_tup {xs : List PV} : truP (.tup xs) = some (!xs.isEmpty) := rfl
@[simp] theorem truP_lst {xs : List PV} : truP (.lst xs) = some (!xs.isEmpty) := rfl
@[simp] theorem isN_non {n : Bool} : isN n .non = .bl (!n) := rfl
@[simp] theorem isN_tup {n : Bool} {xs : List PV} : isN n (.tup xs) = .bl n := rfl
@[simp] theorem isN_lst {n : Bool} {xs : List PV} : isN n (.lst xs) = .bl n := rfl
@[simp] theorem isN_str {n : Bool} {xs : Str} : isN n (.str xs) = .bl n := rfl
@[simp] theorem isN_int {n : Bool} {xs : Int} : isN n (.int xs) = .bl n := rfl
@[simp] theorem isN_bl {n : Bool} {xs : Bool} : isN n (.bl xs) = .bl n := rfl
@[simp] theorem pTuple_l {xs : List PV} : pTuple [.lst xs] = some (.tup xs) := rfl
@[simp] theorem pTuple_t {xs : List PV} : pTuple [.tup xs] = some (.tup xs) := rfl
@[simp] theorem pList_l {xs : List PV} : pList [.lst xs] = some (.lst xs) := rfl
@[simp] theorem pList_t {xs : List PV} : pList [.tup xs] = some (.lst xs) := rfl
theorem intsP_map : ∀ ns : List Int, intsP (ns.map PV.int) = some ns
  | [] => rfl
  | n :: ns => by
    show (intsP (ns.map PV.int)).map (n :: ·) = _
    rw [intsP_map ns]
    rfl
@[simp] theorem pSum_i {ns : List Int} : pSum [.lst (ns.map PV.int)] = some (.int ns.sum) := by
  show (intsP (ns.map PV.int)).map (fun ns => PV.int ns.sum) = _
  rw [intsP_map]
  rfl
theorem cutL_le {α : Type} (xs : List α) (lo hi : Option Int) : (cutL xs lo hi).length ≤ xs.length := by
  unfold cutL
  rw [List.length_take, List.length_drop]
  omega
theorem pSl_frl {ns : List Int} {lo hi : Option Int} (h : ns.length ≤ 16777216) : pSl (.frl ns) lo hi = some (.lst ((cutL ns lo hi).map PV.int)) := if_pos (by rw [szL]; exact Nat.le_trans (cutL_le _ _ _) h)
@[simp] theorem pSl_tup {xs : List PV} {lo hi : Option Int} : pSl (.tup xs) lo hi = some (.tup (cutL xs lo hi)) := rfl
@[simp] theorem pSl_lst {xs : List PV} {lo hi : Option Int} : pSl (.lst xs) lo hi = some (.lst (cutL xs lo hi)) := rfl
@[simp] theorem pSl_str {z : Str} {lo hi : Option Int} : pSl (.str z) lo hi = some (.str (cutS z lo hi)) := rfl
theorem cutL_to {α : Type} (xs : List α) (k : Nat) : cutL xs none (some (k : Int)) = xs.take k := by
  unfold cutL
  rw [HT.sIx_nat]
  show (xs.drop 0).take (min k xs.length - 0) = _
  rw [List.drop_zero, Nat.sub_zero]
  rcases Nat.le_total k xs.length with h | h
  · rw [Nat.min_eq_left h]
  · rw [Nat.min_eq_right h, List.take_of_length_le h, List.take_length]
theorem cutL_from {α : Type} (xs : List α) (k : Nat) : cutL xs (some (k : Int)) none = xs.drop k := by
  unfold cutL
  rw [HT.sIx_nat]
  show (xs.drop (min k xs.length)).take (xs.length - min k xs.length) = _
  rcases Nat.le_total k xs.length with h | h
  · rw [Nat.min_eq_left h, List.take_of_length_le (by rw [List.length_drop]; exact Nat.le_refl _)]
  · rw [Nat.min_eq_right h, List.drop_of_length_le h, List.drop_of_length_le (Nat.le_refl _)]
    exact List.take_nil
theorem cutS_to (z : Str) (k : Nat) : tx (cutS z none (some (k : Int))) = (tx z).take k := by
  unfold tx cutS
  rw [HT.sIx_nat]
  have hl : z.length = z.cps.toList.length := rfl
  show (z.cps.toList.drop 0).take (min k z.length - 0) = _
  rw [List.drop_zero, Nat.sub_zero, hl]
  rcases Nat.le_total k z.cps.toList.length with h | h
  · rw [Nat.min_eq_left h]
  · rw [Nat.min_eq_right h, List.take_of_length_le h, List.take_length]
@[simp] theorem pPut_l {xs : List PV} {j : Int} {v : PV} : pPut (.lst xs) (.int j) v = (ixN xs.length j).map fun n => .lst (xs.set n v) := by
  show (match ixN xs.length j with | some n => some (PV.lst (xs.set n v)) | none => none) = _
  cases ixN xs.length j <;> rfl
theorem ixN_nat {n k : Nat} (h : k < n) : ixN n (k : Int) = some k := by
  unfold ixN
  rw [if_pos (Int.natCast_nonneg k), if_pos (by omega)]
  rfl
@[simp] theorem kitB_tl : kitB "tuple" "list" = some false := by decide +kernel
@[simp] theorem kitB_ll : kitB "list" "list" = some true := by decide +kernel
@[simp] theorem kitB_sl : kitB "str" "list" = some false := by decide +kernel
@[simp] theorem kitB_il : kitB "int" "list" = some false := by decide +kernel
@[simp] theorem kitB_bl : kitB "bool" "list" = some false := by decide +kernel
@[simp] theorem kitB_nl : kitB "NoneType" "list" = some false := by decide +kernel
@[simp] theorem kitB_tt : kitB "tuple" "tuple" = some true := by decide +kernel
@[simp] theorem kitB_lt : kitB "list" "tuple" = some false := by decide +kernel
@[simp] theorem kitB_st : kitB "str" "tuple" = some false := by decide +kernel
@[simp] theorem kitB_it : kitB "int" "tuple" = some false := by decide +kernel
@[simp] theorem kitB_bt : kitB "bool" "tuple" = some false := by decide +kernel
@[simp] theorem kitB_nt : kitB "NoneType" "tuple" = some false := by decide +kernel
@[simp] theorem kitB_ts : kitB "tuple" "str" = some false := by decide +kernel
@[simp] theorem kitB_ls : kitB "list" "str" = some false := by decide +kernel
@[simp] theorem kitB_ss : kitB "str" "str" = some true := by decide +kernel
@[simp] theorem kitB_is : kitB "int" "str" = some false := by decide +kernel
@[simp] theorem kitB_bs : kitB "bool" "str" = some false := by decide +kernel
@[simp] theorem kitB_ns : kitB "NoneType" "str" = some false := by decide +kernel
@[simp] theorem kitB_ti : kitB "tuple" "int" = some false := by decide +kernel
@[simp] theorem kitB_li : kitB "list" "int" = some false := by decide +kernel
@[simp] theorem kitB_si : kitB "str" "int" = some false := by decide +kernel
@[simp] theorem kitB_ii : kitB "int" "int" = some true := by decide +kernel
@[simp] theorem kitB_bi : kitB "bool" "int" = some true := by decide +kernel
@[simp] theorem kitB_ni : kitB "NoneType" "int" = some false := by decide +kernel
@[simp] theorem kitB_tb : kitB "tuple" "bool" = some false := by decide +kernel
@[simp] theorem kitB_lb : kitB "list" "bool" = some false := by decide +kernel
@[simp] theorem kitB_sb : kitB "str" "bool" = some false := by decide +kernel
@[simp] theorem kitB_ib : kitB "int" "bool" = some false := by decide +kernel
@[simp] theorem kitB_bb : kitB "bool" "bool" = some true := by decide +kernel
@[simp] theorem kitB_nb : kitB "NoneType" "bool" = some false := by decide +kernel
section
variable {oc : Nat → Option Bool} {T : String}
@[simp] theorem ansT_non : ansT oc T .non = kitB "NoneType" T := rfl
@[simp] theorem ansT_bl {b : Bool} : ansT oc T (.bl b) = kitB "bool" T := rfl
@[simp] theorem ansT_int {b : Int} : ansT oc T (.int b) = kitB "int" T := rfl
@[simp] theorem ansT_str {b : Str} : ansT oc T (.str b) = kitB "str" T := rfl
@[simp] theorem ansT_tup {b : List PV} : ansT oc T (.tup b) = kitB "tuple" T := rfl
@[simp] theorem ansT_lst {b : List PV} : ansT oc T (.lst b) = kitB "list" T := rfl
@[simp] theorem ansAny_nil {x : PV} : ansAny [] x = some false := rfl
theorem ansAny_t {f : PV → Option Bool} {fs : List (PV → Option Bool)} {x : PV} (h : f x = some true) : ansAny (f :: fs) x = some true := by
  unfold ansAny
  rw [h]
theorem ansAny_f {f : PV → Option Bool} {fs : List (PV → Option Bool)} {x : PV} (h : f x = some false) : ansAny (f :: fs) x = ansAny fs x := by
  conv => lhs; unfold ansAny
  rw [h]
@[simp] theorem ansO_obj {c : Nat} {fs : List (Str × PV)} : ansO oc (.obj c fs) = oc c := rfl
@[simp] theorem ansO_tup {xs : List PV} : ansO oc (.tup xs) = some false := rfl
@[simp] theorem ansO_lst {xs : List PV} : ansO oc (.lst xs) = some false := rfl
@[simp] theorem ocOf_self {k : Nat} : ocOf k k = some true := by
  unfold ocOf
  rw [if_pos rfl]
end
@[simp] theorem pFld_obj {c : Nat} {f : Str} {fs : List (Str × PV)} : pFld c f (.obj c fs) = fs.lookup f := by
  unfold pFld
  dsimp only
  rw [if_pos rfl]
theorem rangeP_mem {lo : Int} {n : Nat} {y : PV} (h : y ∈ rangeP lo n) : ∃ i : Nat, i < n ∧ y = .int (lo + (i : Int)) := by
  unfold rangeP at h
  obtain ⟨i, hi, rfl⟩ := List.mem_map.mp h
  exact ⟨i, List.mem_range.mp hi, rfl⟩
theorem inR_of {j : Int} (h1 : -4611686018427387904 ≤ j) (h2 : j < 4611686018427387904) : inR j = true := by
  unfold inR
  have a : -(2 ^ 62 : Int) ≤ j := by omega
  have b : j < (2 ^ 62 : Int) := by omega
  rw [decide_eq_true a, decide_eq_true b]
  rfl
@[simp] theorem ixN_0 {n : Nat} : ixN (n + 1) 0 = some 0 := ixN_nat (k := 0) (by omega)
@[simp] theorem ixN_1 {n : Nat} : ixN (n + 2) 1 = some 1 := ixN_nat (k := 1) (by omega)
@[simp] theorem ixN_2 {n : Nat} : ixN (n + 3) 2 = some 2 := ixN_nat (k := 2) (by omega)
@[simp] theorem ixN_3 {n : Nat} : ixN (n + 4) 3 = some 3 := ixN_nat (k := 3) (by omega)
@[simp] theorem ixN_4 {n : Nat} : ixN (n + 5) 4 = some 4 := ixN_nat (k := 4) (by omega)
theorem brS_any {α : Type} {b : Bool} {m n : M α} {S : Sto} {P : Kt α} (Q : α → Prop) (h1 : b = true → wq m S fun x S1 => Q x ∧ S1 = S) (h2 : b = false → wq n S fun x S1 => Q x ∧ S1 = S) (k : ∀ x, Q x → P x S) : brS b m n S P :=
  ⟨fun e => wq_mono (h1 e) fun x S1 ⟨q, z⟩ => by rw [z]; exact k x q, fun e => wq_mono (h2 e) fun x S1 ⟨q, z⟩ => by rw [z]; exact k x q⟩
theorem pPow_10_18 : pPow (.int 10) (.int 18) = some (.int 1000000000000000000) := by
  unfold pPow
  dsimp only
  rw [if_pos (by decide)]
  rfl
theorem tx_len (w : Str) : (tx w).length = w.length := rfl
theorem tx_append (a b : Str) : tx (a ++ b) = tx a ++ tx b := by
  unfold tx
  rw [Str.cps_append, Array.toList_append]
theorem tx_inj {a b : Str} (h : tx a = tx b) : a = b := by
  have hc : a.cps = b.cps := Array.toList_inj.mp h
  cases a
  cases b
  simp only [Str.mk.injEq]
  exact hc
theorem len_append (a b : Str) : (a ++ b).length = a.length + b.length := by
  rw [← tx_len, tx_append, List.length_append]
  rfl
@[simp] theorem filter_tt {α : Type} {l : List α} : l.filter (fun _ => true) = l := List.filter_eq_self.mpr fun _ _ => rfl
@[simp] theorem exS_ite {α : Type} {c : Prop} [Decidable c] {z : α} {S : Sto} {P : Kt α} : exS (if c then some z else none) S P ↔ c ∧ P z S := by
  by_cases h : c
  · rw [if_pos h, exS_some]
    exact ⟨fun p => ⟨h, p⟩, fun p => p.2⟩
  · rw [if_neg h]
    exact ⟨fun p => exS_none.mp p |>.elim, fun p => (h p.1).elim⟩
@[simp] theorem upB_ite_o {α : Type} {c : Prop} [Decidable c] {y : α} {g : α → PV} {i : Nat} {S : Sto} {P : Kt α} : upB true (if c then some y else none) g i S P ↔ c ∧ P y (S.set i (some (.o (g y)))) := by
  by_cases h : c
  · rw [if_pos h, upB_o]
    exact ⟨fun p => ⟨h, p⟩, fun p => p.2⟩
  · rw [if_neg h]
    exact ⟨fun ⟨_, e, _⟩ => (by cases e), fun p => (h p.1).elim⟩
@[simp] theorem upB_ite_i {α : Type} {c : Prop} [Decidable c] {y : α} {g : α → PV} {i : Nat} {S : Sto} {P : Kt α} : upB false (if c then some y else none) g i S P ↔ c ∧ P y (S.set i (some (.i (g y)))) := by
  by_cases h : c
  · rw [if_pos h, upB_i]
    exact ⟨fun p => ⟨h, p⟩, fun p => p.2⟩
  · rw [if_neg h]
    exact ⟨fun ⟨_, e, _⟩ => (by cases e), fun p => (h p.1).elim⟩
@[simp] theorem fApp_l {ys : List PV} {y : PV} : fApp (.lst ys) [y] = if ys.length < sizeLine then some (.lst (ys ++ [y]), .non) else none := rfl
end Kp
set_option Elab.async false
set_option linter.all false
set_option maxRecDepth 100000
set_option maxHeartbeats 4000000
namespace Kp
open PySem L2
theorem joinL_flat : ∀ ps : List (List Nat), TL.joinL [] ps = ps.flatten
  | [] => rfl
  | [p] => by simp [TL.joinL]
  | p :: q :: r => by
    show p ++ ([] ++ TL.joinL [] (q :: r)) = _
    rw [joinL_flat (q :: r), List.nil_append]
    rfl
def chr1 (c : Nat) : Str := ⟨#[c]⟩
theorem strsP_map : ∀ ws : List Str, strsP (ws.map PV.str) = some ws
  | [] => rfl
  | w :: ws => by
    show (strsP (ws.map PV.str)).map (w :: ·) = _
    rw [strsP_map ws]
    rfl
theorem join_flat (ws : List Str) : tx (Txt.join "" ws) = (ws.map fun w => tx w).flatten := by
  have e : Txt.join "" ws = Str.join "" ws := TL.join_eq _ _
  have e2 := TL.tl_join "" ws
  rw [e]
  exact e2.trans (joinL_flat _)
theorem flat_chr : ∀ cs : List Nat, ((cs.map chr1).map fun w => tx w).flatten = cs
  | [] => rfl
  | c :: cs => by
    show [c] ++ ((cs.map chr1).map fun w => tx w).flatten = _
    rw [flat_chr cs]
    rfl
theorem len_chr (cs : List Nat) : ((cs.map chr1).map fun w => w.length).sum = cs.length := by
  induction cs with
  | nil => rfl
  | cons c cs ih =>
    rw [List.map_cons, List.map_cons, List.sum_cons, ih, List.length_cons]
    show 1 + cs.length = _
    omega
theorem pJoin_chars (cs : List Nat) (h : cs.length ≤ 100) : pJoin (.str "") (.lst (cs.map (PV.str ∘ chr1))) = some (.str ⟨cs.toArray⟩) := by
  rw [← List.map_map]
  have ej : Txt.join "" (cs.map chr1) = ⟨cs.toArray⟩ := tx_inj (by rw [join_flat, flat_chr]; rfl)
  have hl : (⟨cs.toArray⟩ : Str).length = cs.length := List.size_toArray
  unfold pJoin
  dsimp only
  have e : (itemsP (.lst ((cs.map chr1).map PV.str))).bind strsP = some (cs.map chr1) := strsP_map _
  rw [e]
  dsimp only
  rw [len_chr, ej, hl, List.length_map, szL]
  have z : Str.length (Str.ofString "") = 0 := by decide +kernel
  rw [z, if_pos (by omega)]
theorem isDL_strs : ∀ ws : List Str, PV.isDL (ws.map PV.str) = true
  | [] => rfl
  | w :: ws => by
    show (PV.isD (.str w) && PV.isDL (ws.map PV.str)) = true
    rw [isDL_strs ws]
    rfl
theorem datL_strs : ∀ ws : List Str, PV.datL (ws.map PV.str) = ws.map PyData.str
  | [] => rfl
  | w :: ws => by
    show PV.dat (.str w) :: PV.datL (ws.map PV.str) = _
    rw [datL_strs ws]
    rfl
theorem dat_str (a : Str) : (PV.str a).dat = .str a := rfl
theorem depth_str (a : Str) : (PyData.str a).depth = 0 := by simp [PyData.depth]
theorem pInB_s {a : Str} {ws : List Str} : pInB (.str a) (.lst (ws.map PV.str)) = some (decide (a ∈ ws)) := by
  unfold pInB
  dsimp only
  rw [isDL_strs, datL_strs, dat_str, depth_str, Nat.min_zero, if_pos (by rfl)]
  congr 1
  rw [List.any_map]
  have e : ∀ d : Str, ((fun d => PyData.eqv d (.str a)) ∘ PyData.str) d = decide (d = a) := fun d => by
    show PyData.eqv (.str d) (.str a) = _
    by_cases h : d = a <;> simp [PyData.eqv, h]
  by_cases h : a ∈ ws
  · rw [decide_eq_true h]
    exact List.any_eq_true.mpr ⟨a, h, by rw [e]; simp⟩
  · rw [decide_eq_false h]
    refine List.any_eq_false.mpr fun d hd => ?_
    rw [e]
    simp only [decide_eq_true_eq]
    intro z
    exact h (z ▸ hd)
@[simp] theorem pHas_s {a : Str} {ws : List Str} : pHas (.str a) (.lst (ws.map PV.str)) = some (.bl (decide (a ∈ ws))) := by
  show (pInB (.str a) (.lst (ws.map PV.str))).map PV.bl = _
  rw [pInB_s]
  rfl
@[simp] theorem pHasNot_s {a : Str} {ws : List Str} : pHasNot (.str a) (.lst (ws.map PV.str)) = some (.bl (!decide (a ∈ ws))) := by
  show (pInB (.str a) (.lst (ws.map PV.str))).map (fun b => PV.bl (!b)) = _
  rw [pInB_s]
  rfl
@[simp] theorem pHasNot_nil {a : Str} : pHasNot (.str a) (.lst []) = some (.bl true) := pHasNot_s (ws := [])
@[simp] theorem okPut_m {o : Option PV} : okPut (some (o.map SV.p)) = true := by cases o <;> rfl
/-- one of many is not among few -/
theorem pigeon : ∀ (cs ws : List Str), cs.Nodup → ws.length < cs.length → ∃ c ∈ cs, c ∉ ws
  | [], _, _, h => by simp at h
  | c :: cs, ws, hn, h => by
    by_cases hc : c ∈ ws
    · have hn' := List.nodup_cons.mp hn
      have hl : (ws.erase c).length < cs.length := by
        rw [List.length_erase_of_mem hc]
        have := List.length_pos_of_mem hc
        rw [List.length_cons] at h
        omega
      obtain ⟨d, hd, hw⟩ := pigeon cs (ws.erase c) hn'.2 hl
      refine ⟨d, List.mem_cons_of_mem _ hd, fun hm => hw ?_⟩
      have : d ≠ c := fun e => hn'.1 (e ▸ hd)
      exact (List.mem_erase_of_ne this).mpr hm
    · exact ⟨c, List.mem_cons_self, hc⟩
end Kp
set_option Elab.async false
set_option linter.all false
set_option maxRecDepth 100000
set_option maxHeartbeats 4000000
namespace Kp
open PySem L2
section
variable {α β : Type} {S : Sto} {a : Option SV}
/-! ### more rules -/
def enE (x : PV) (S : Sto) (P : Kt (List PV)) : Prop := ∃ ys, x = .tup ys ∧ P (enumP 0 ys) S
@[simp] theorem enE_tup {xs : List PV} {P : Kt (List PV)} : enE (.tup xs) S P ↔ P (enumP 0 xs) S := ⟨fun ⟨_, e, p⟩ => by cases e; exact p, fun p => ⟨xs, rfl, p⟩⟩
@[simp] theorem e_mEnum {m : M PV} {P : Kt (List PV)} : wq (mEnum m) (a :: S) P ↔ wq m (a :: S) fun x S1 => enE x S1 P := by
  unfold mEnum
  rw [wq_bnd]
  constructor
  · refine fun h => wq_mono h fun x S' h => ?_
    cases x <;> try (exact (wq_none.mp h).elim)
    exact ⟨_, rfl, wq_ret.mp h⟩
  · refine fun h => wq_mono h fun x S' h => ?_
    obtain ⟨ys, rfl, h⟩ := h
    exact wq_ret.mpr h
def isMO (c : Nat) (m : Str) : Option (Option SV) → Bool
  | some (some (.o x)) => isObjM c m x
  | some (some (.i x)) => isObjM c m x
  | _ => false
theorem isM_eq {i c : Nat} {m : Str} {S : Sto} : isM i c m S = isMO c m S[i]? := by
  unfold isM isMO
  rfl
@[simp] theorem isMO_o {c : Nat} {m : Str} {fs : List (Str × PV)} : isMO c m (some (some (.o (.obj c fs)))) = (fs.lookup m).isNone := by simp [isMO, isObjM]
@[simp] theorem isMO_i {c : Nat} {m : Str} {fs : List (Str × PV)} : isMO c m (some (some (.i (.obj c fs)))) = (fs.lookup m).isNone := by simp [isMO, isObjM]
@[simp] theorem e_mMethI {i c : Nat} {m : Str} {f : PV → List PV → Option (PV × RO)} {ms : List (M PV)} {P : Kt PV} : wq (mMethI i c m f ms) (a :: S) P ↔ gdS (isMO c m (a :: S)[i]?) (a :: S) fun S0 => wq (mArgs ms) S0 fun xs S1 => wq (mIn i fun x => f x xs) S1 P := by
  unfold mMethI gdS
  rw [← isM_eq]
  constructor
  · rintro ⟨x, S', e, p⟩
    dsimp only at e
    split at e
    · rename_i h
      exact ⟨h, wq_bnd.mp ⟨x, S', e, p⟩⟩
    · cases e
  · rintro ⟨h, q⟩
    obtain ⟨x, S', e, p⟩ := wq_bnd.mpr q
    exact ⟨x, S', by dsimp only; rw [if_pos h]; exact e, p⟩
@[simp] theorem e_mIncF {i c : Nat} {f : Str} {n : Int} {P : Kt Fl} : wq (mIncF i c f n) (a :: S) P ↔ wq (updO i (pIncF c f n)) (a :: S) fun _ S1 => P .nx S1 := by
  unfold mIncF
  rw [wq_bnd]
  simp only [wq_ret]
@[simp] theorem e_mIns {i : Nat} {m n : M PV} {P : Kt Fl} : wq (mIns i m n) (a :: S) P ↔ gdS (isOT "list" i (a :: S)) (a :: S) fun S0 => wq m S0 fun x S1 => wq n S1 fun y S2 => wq (updR i fun l => fIns l [x, y]) S2 fun _ S3 => P .nx S3 := by
  show wq (mDrop (mMt "list" i fIns [m, n])) (a :: S) P ↔ _
  rw [wq_mDrop, wq_mMt]
  simp only [wq_mArgs_cons, wq_mArgs_nil]
  rfl
@[simp] theorem e_mExt {i : Nat} {m : M PV} {P : Kt Fl} : wq (mExt i m) (a :: S) P ↔ gdS (isOT "list" i (a :: S)) (a :: S) fun S0 => wq m S0 fun x S1 => wq (updR i fun l => fExt l [x]) S1 fun _ S3 => P .nx S3 := by
  show wq (mDrop (mMt "list" i fExt [m])) (a :: S) P ↔ _
  rw [wq_mDrop, wq_mMt]
  simp only [wq_mArgs_cons, wq_mArgs_nil]
  rfl
/-- the cases of a match -/
def mcE (mcs : List (List Str × Option Nat × M Fl)) (x : PV) (S : Sto) (P : Kt Fl) : Prop := ∃ u, x = .str u ∧ wq (mCases mcs u) S P
@[simp] theorem mcE_str {mcs : List (List Str × Option Nat × M Fl)} {u : Str} {P : Kt Fl} : mcE mcs (.str u) S P ↔ wq (mCases mcs u) S P := ⟨fun ⟨_, e, p⟩ => by cases e; exact p, fun p => ⟨u, rfl, p⟩⟩
@[simp] theorem e_mMatch {m : M PV} {mcs : List (List Str × Option Nat × M Fl)} {P : Kt Fl} : wq (mMatch m mcs) (a :: S) P ↔ wq m (a :: S) fun x S1 => mcE mcs x S1 P := by
  unfold mMatch
  rw [wq_bnd]
  constructor
  · refine fun h => wq_mono h fun x S' h => ?_
    cases x <;> try (exact (wq_none.mp h).elim)
    exact ⟨_, rfl, h⟩
  · refine fun h => wq_mono h fun x S' h => ?_
    obtain ⟨u, rfl, h⟩ := h
    exact h
@[simp] theorem e_mCases_nil {u : Str} {P : Kt Fl} : wq (mCases [] u) S P ↔ P .nx S := wq_ret
@[simp] theorem e_mCases_cons {ws : List Str} {i : Option Nat} {m : M Fl} {r : List (List Str × Option Nat × M Fl)} {u : Str} {P : Kt Fl} : wq (mCases ((ws, i, m) :: r) u) S P ↔ if u ∈ ws then wq (putAt i u m) S P else wq (mCases r u) S P := by
  show wq (if u ∈ ws then (putAt i u m) else mCases r u) S P ↔ _
  split <;> rfl
@[simp] theorem e_putAt_n {u : Str} {m : M Fl} {P : Kt Fl} : wq (putAt none u m) S P ↔ wq m S P := Iff.rfl
@[simp] theorem e_putAt_s {i : Nat} {u : Str} {m : M Fl} {P : Kt Fl} : wq (putAt (some i) u m) (a :: S) P ↔ wq (put i (.str u)) (a :: S) fun _ S1 => wq m S1 P := wq_bnd
/-- while: as long as I n holds with n > 0 the test is true, I 0 ends it -/
theorem wq_while {c : M Bool} {m : M Fl} {P : Kt Fl} (I : Nat → Sto → Prop)
    (h0 : ∀ S, I 0 S → wq c S fun b S1 => b = false ∧ P .nx S1)
    (h1 : ∀ n S, I (n + 1) S → wq c S fun b S1 => b = true ∧ wq m S1 fun f S2 => f = .nx ∧ I n S2) :
    ∀ (n k : Nat) (S : Sto), I n S → n < k → wq (whileM c m k) S P
  | 0, 0, S, hi, hk => absurd hk (Nat.lt_irrefl _)
  | 0, k + 1, S, hi, hk => by
    obtain ⟨b, S1, e, rfl, p⟩ := h0 S hi
    exact ⟨.nx, S1, by unfold whileM; rw [e], p⟩
  | n + 1, 0, S, hi, hk => absurd hk (Nat.not_lt_zero _)
  | n + 1, k + 1, S, hi, hk => by
    obtain ⟨b, S1, e, rfl, f, S2, e2, rfl, hi2⟩ := h1 n S hi
    obtain ⟨f, S3, e3, p⟩ := wq_while I h0 h1 n k S2 hi2 (by omega)
    exact ⟨f, S3, by unfold whileM; rw [e]; dsimp only; rw [e2]; exact e3, p⟩
@[simp] theorem gT2_c {i j : Nat} {x y : PV} : gT [gN i, gN j] (.tup [x, y]) (a :: S) = (gN i x (a :: S)).bind fun S1 => gN j y S1 := by
  show gTs [gN i, gN j] [x, y] (a :: S) = _
  unfold gTs
  cases gN i x (a :: S) with
  | none => rfl
  | some S1 =>
    dsimp only [Option.bind]
    unfold gTs
    cases gN j y S1 with
    | none => rfl
    | some S2 => rfl
@[simp] theorem fIns_l {ys : List PV} {i : Int} {y : PV} : fIns (.lst ys) [.int i, y] = if ys.length < sizeLine ∧ 0 ≤ i ∧ i < 2 ^ 63 then some (.lst (ys.take i.toNat ++ [y] ++ ys.drop i.toNat), .non) else none := rfl
@[simp] theorem fExt_l {ys zs : List PV} : fExt (.lst ys) [.lst zs] = if ys.length + zs.length ≤ sizeLine then some (.lst (ys ++ zs), .non) else none := rfl
@[simp] theorem pCat_l {ys zs : List PV} : pCat (.lst ys) (.lst zs) = if ys.length + zs.length ≤ sizeLine then some (.lst (ys ++ zs)) else none := rfl
@[simp] theorem ansT_objF {k : Nat} {T : String} {fs : List (Str × PV)} : ansT (ocF k) T (.obj k fs) = some false := by
  show ocF k k = _
  unfold ocF
  rw [if_pos rfl]
@[simp] theorem ansO_str {oc : Nat → Option Bool} {x : Str} : ansO oc (.str x) = some false := rfl
@[simp] theorem ansO_non {oc : Nat → Option Bool} : ansO oc .non = some false := rfl
@[simp] theorem isN_obj {n : Bool} {c : Nat} {fs : List (Str × PV)} : isN n (.obj c fs) = .bl n := rfl
@[simp] theorem pIncF_obj {c : Nat} {f : Str} {n : Int} {fs : List (Str × PV)} : pIncF c f n (.obj c fs) = if fs.length < 100 then (match fs.lookup f with | some (.int k) => some (.obj c (putFP f (.int (k + n)) fs)) | _ => none) else none := by
  unfold pIncF
  dsimp only
  by_cases h : fs.length < 100
  · rw [if_pos (show c = c ∧ fs.length < 100 from ⟨rfl, h⟩), if_pos h]
    all_goals rfl
  · rw [if_neg (show ¬ (c = c ∧ fs.length < 100) from fun q => h q.2), if_neg h]
@[simp] theorem pSetF_obj {c : Nat} {f : Str} {v : PV} {fs : List (Str × PV)} : pSetF c f v (.obj c fs) = if fs.length < 100 then some (.obj c (putFP f v fs)) else none := by
  unfold pSetF
  by_cases h : fs.length < 100 <;> simp [h]
end
/-! ### rows of texts -/
theorem depthAll_strs : ∀ ws : List Str, PyData.depthAll (ws.map PyData.str) = 0
  | [] => by simp [PyData.depthAll]
  | w :: ws => by
    have := depthAll_strs ws
    simp only [List.map_cons, PyData.depthAll, depth_str]
    omega
theorem eqvAll_strs : ∀ us ws : List Str, PyData.eqvAll (us.map PyData.str) (ws.map PyData.str) = decide (us = ws)
  | [], [] => by simp [PyData.eqvAll]
  | [], q :: qs => by simp [PyData.eqvAll]
  | p :: ps, [] => by simp [PyData.eqvAll]
  | p :: ps, q :: qs => by
    rw [List.map_cons, List.map_cons, PyData.eqvAll, eqvAll_strs ps qs]
    by_cases h1 : p = q <;> by_cases h2 : ps = qs <;> simp [h1, h2, PyData.eqv]
theorem pEqB_strs (us ws : List Str) : pEqB (.tup (us.map .str)) (.tup (ws.map .str)) = some (decide (us = ws)) := by
  unfold pEqB
  have d : ∀ us : List Str, (PV.tup (us.map .str)).dat = .tuple (us.map .str) := fun us => by
    show PyData.tuple (PV.datL (us.map .str)) = _
    rw [datL_strs]
  have h1 : ∀ us : List Str, (PyData.tuple (us.map .str)).depth ≤ 1 := fun us => by
    simp only [PyData.depth, depthAll_strs]
    omega
  have h2 := h1 us
  have e : (PV.isD (.tup (us.map .str)) && PV.isD (.tup (ws.map .str)) && decide (min (PV.tup (us.map .str)).dat.depth (PV.tup (ws.map .str)).dat.depth ≤ 60)) = true := by
    rw [show PV.isD (.tup (us.map .str)) = true from isDL_strs us, show PV.isD (.tup (ws.map .str)) = true from isDL_strs ws, d, d, decide_eq_true (by omega)]
    rfl
  rw [if_pos e, d, d, PyData.eqv, eqvAll_strs]
@[simp] theorem pEq_strs (us ws : List Str) : pEq (.tup (us.map .str)) (.tup (ws.map .str)) = some (.bl (decide (us = ws))) := by
  unfold pEq
  rw [pEqB_strs]
  rfl
@[simp] theorem pNe_strs (us ws : List Str) : pNe (.tup (us.map .str)) (.tup (ws.map .str)) = some (.bl (!decide (us = ws))) := by
  unfold pNe
  rw [pEqB_strs]
  rfl
theorem pInB_t {a : Str} {ws : List Str} : pInB (.str a) (.tup (ws.map PV.str)) = some (decide (a ∈ ws)) := by
  unfold pInB
  dsimp only
  rw [isDL_strs, datL_strs, dat_str, depth_str, Nat.min_zero, if_pos (by rfl)]
  congr 1
  rw [List.any_map]
  have e : ∀ d : Str, ((fun d => PyData.eqv d (.str a)) ∘ PyData.str) d = decide (d = a) := fun d => by
    show PyData.eqv (.str d) (.str a) = _
    by_cases h : d = a <;> simp [PyData.eqv, h]
  by_cases h : a ∈ ws
  · rw [decide_eq_true h]
    exact List.any_eq_true.mpr ⟨a, h, by rw [e]; simp⟩
  · rw [decide_eq_false h]
    refine List.any_eq_false.mpr fun d hd => ?_
    rw [e]
    simp only [decide_eq_true_eq]
    intro z
    exact h (z ▸ hd)
@[simp] theorem pHas_t {a : Str} {ws : List Str} : pHas (.str a) (.tup (ws.map PV.str)) = some (.bl (decide (a ∈ ws))) := by
  show (pInB (.str a) (.tup (ws.map PV.str))).map PV.bl = _
  rw [pInB_t]
  rfl
@[simp] theorem pHasNot_t {a : Str} {ws : List Str} : pHasNot (.str a) (.tup (ws.map PV.str)) = some (.bl (!decide (a ∈ ws))) := by
  show (pInB (.str a) (.tup (ws.map PV.str))).map (fun b => PV.bl (!b)) = _
  rw [pInB_t]
  rfl
/-! ### a line of words -/
def Ln (ws : List Str) : Str := Txt.join " " ws
/-- words of a line: short, without spaces -/
def wd (w : Str) : Prop := (tx w).length ≤ 20 ∧ 32 ∉ tx w
def wds (ws : List Str) : Prop := ws ≠ [] ∧ ws.length ≤ 20 ∧ ∀ w ∈ ws, wd w
theorem tx_S (w : Str) : SX.S (tx w) = w := SX.S_tl w
theorem ln_S (ws : List Str) : Ln ws = SX.S (TL.joinL [32] (ws.map tx)) := by
  have e : ws = (ws.map tx).map SX.S := by
    rw [List.map_map]
    conv => lhs; rw [← List.map_id ws]
    exact List.map_congr_left fun w _ => (tx_S w).symm
  have e2 : (" " : Str) = SX.S [32] := by decide +kernel
  unfold Ln
  rw [e2]
  conv => lhs; rw [e]
  rw [SX.join_S]
theorem split_ln {ws : List Str} (h : wds ws) : Txt.split (Ln ws) " " = ws := by
  have e2 : (" " : Str) = SX.S [32] := by decide +kernel
  rw [ln_S, e2, SX.split_S (by decide) (by decide), SX.spl_join (by simp; exact h.1) (fun p hp => by
    obtain ⟨w, hw, rfl⟩ := List.mem_map.mp hp
    exact (h.2.2 w hw).2), List.map_map]
  conv => rhs; rw [← List.map_id ws]
  exact List.map_congr_left fun w _ => tx_S w
theorem joinL_len : ∀ {ps : List (List Nat)}, (∀ p ∈ ps, p.length ≤ 20) → (TL.joinL [32] ps).length ≤ 21 * ps.length
  | [], _ => by simp [TL.joinL]
  | [p], h => by
    have := h p List.mem_cons_self
    simp [TL.joinL]
    omega
  | p :: q :: r, h => by
    have h1 := h p List.mem_cons_self
    have h2 := joinL_len (ps := q :: r) fun x hx => h x (List.mem_cons_of_mem _ hx)
    have e : TL.joinL [32] (p :: q :: r) = p ++ ([32] ++ TL.joinL [32] (q :: r)) := rfl
    rw [e, List.length_append, List.length_append, List.length_cons]
    simp only [List.length_singleton, List.length_cons, List.length_nil] at h2 ⊢
    omega
theorem ln_len {ws : List Str} (h : wds ws) : (Ln ws).length ≤ 420 := by
  rw [ln_S, SX.S_len]
  have := joinL_len (ps := ws.map tx) fun p hp => by
    obtain ⟨w, hw, rfl⟩ := List.mem_map.mp hp
    exact (h.2.2 w hw).1
  have h2 := h.2.1
  rw [List.length_map] at this
  omega
theorem sum_lens : ∀ {ws : List Str}, (∀ w ∈ ws, wd w) → (ws.map (·.length)).sum ≤ 20 * ws.length
  | [], _ => by simp
  | w :: ws, h => by
    have h1 := (h w List.mem_cons_self).1
    rw [tx_len] at h1
    have := sum_lens fun x hx => h x (List.mem_cons_of_mem _ hx)
    rw [List.map_cons, List.sum_cons, List.length_cons]
    omega
theorem len_sp : Str.length (Str.ofString " ") = 1 := by decide +kernel
@[simp] theorem pJoin_ln {ws : List Str} (h : wds ws) : pJoin (.str " ") (.lst (ws.map .str)) = some (.str (Ln ws)) := by
  unfold pJoin
  dsimp only
  have e : (itemsP (.lst (ws.map PV.str))).bind strsP = some ws := strsP_map _
  rw [e]
  dsimp only
  have h1 := sum_lens h.2.2
  have h2 := h.2.1
  have h3 := ln_len h
  have h3' : (Txt.join " " ws).length ≤ 420 := h3
  rw [szL, len_sp, if_pos (by omega)]
  rfl
@[simp] theorem pSplit_ln {ws : List Str} (h : wds ws) : pSplit (.str (Ln ws)) (.str " ") = some (.lst (ws.map .str)) := by
  unfold pSplit
  dsimp only
  have h3 := ln_len h
  rw [split_ln h, szL, len_sp, if_pos]
  refine ⟨rfl, by omega, List.all_eq_true.mpr fun w hw => ?_⟩
  have := (h.2.2 w hw).1
  rw [tx_len] at this
  exact decide_eq_true (by omega)
end Kp
set_option Elab.async false
set_option linter.all false
set_option maxRecDepth 100000
set_option maxHeartbeats 4000000
namespace Kp
open PySem L2
theorem ofs_inj {a b : String} (h : Str.ofString a = Str.ofString b) : a = b := by
  have e : ∀ s, Str.ofString s = Str.ofStringByList s := fun s => congrFun Str.ofString_eq_byList s
  rw [e, e] at h
  have h2 : a.toList.map Char.toNat = b.toList.map Char.toNat := congrArg (fun x : Str => x.cps.toList) h
  have h3 : a.toList = b.toList := List.map_inj_right (fun x y q => Char.toNat_inj.mp q) |>.mp h2
  exact String.toList_inj.mp h3
@[simp] theorem ofs_eq {a b : String} : (Str.ofString a = Str.ofString b) ↔ a = b := ⟨ofs_inj, fun h => by rw [h]⟩
@[simp] theorem ofs_beq {a b : String} : (Str.ofString a == Str.ofString b) = (a == b) := by
  by_cases h : a = b
  · subst h
    simp
  · have h2 : ¬ Str.ofString a = Str.ofString b := fun q => h (ofs_inj q)
    rw [beq_eq_false_iff_ne.mpr h, beq_eq_false_iff_ne.mpr h2]
theorem loop_nil {g : PV → Sto → Option Sto} {m : M Fl} {S : Sto} {P : Kt Fl} : wq (loop g m []) S P ↔ P .nx S := wq_ret
theorem loop_cons {g : PV → Sto → Option Sto} {m : M Fl} {S : Sto} {P : Kt Fl} {y : PV} {ys : List PV} (h : ∃ S1, g y S = some S1 ∧ wq m S1 (trn (fun S2 => wq (loop g m ys) S2 P) P)) : wq (loop g m (y :: ys)) S P := by
  obtain ⟨S1, e1, f, S2, e2, q⟩ := h
  have step : loop g m (y :: ys) S = match m S1 with
    | none => none
    | some (.ok .nx S2) => loop g m ys S2
    | some (.ok .ct S2) => loop g m ys S2
    | some (.ok .bk S2) => some (.ok .nx S2)
    | some r => some r := by
    show (match g y S with | none => none | some S1 => _) = _
    rw [e1]
    all_goals rfl
  cases f with
  | nx =>
    obtain ⟨x, S', e, p⟩ := q
    exact ⟨x, S', by rw [step, e2]; exact e, p⟩
  | ct =>
    obtain ⟨x, S', e, p⟩ := q
    exact ⟨x, S', by rw [step, e2]; exact e, p⟩
  | bk => exact ⟨.nx, S2, by rw [step, e2], q⟩
  | rt y => exact ⟨.rt y, S2, by rw [step, e2], q⟩
theorem cutS_from (z : Str) (k : Nat) : tx (cutS z (some (k : Int)) none) = (tx z).drop k := by
  unfold tx cutS
  rw [HT.sIx_nat]
  have hl : z.length = z.cps.toList.length := rfl
  show (z.cps.toList.drop (min k z.length)).take (z.length - min k z.length) = _
  rw [hl]
  rcases Nat.le_total k z.cps.toList.length with h | h
  · rw [Nat.min_eq_left h, List.take_of_length_le (by rw [List.length_drop]; exact Nat.le_refl _)]
  · rw [Nat.min_eq_right h, List.drop_of_length_le h, List.drop_of_length_le (Nat.le_refl _)]
    exact List.take_nil
theorem blsP_tt : ∀ n : Nat, blsP (List.replicate n (.bl true)) = some (List.replicate n true)
  | 0 => rfl
  | n + 1 => by
    show (blsP (List.replicate n (.bl true))).map (true :: ·) = _
    rw [blsP_tt n]
    rfl
theorem pAll_tt {zs : List PV} (h : ∀ z ∈ zs, z = .bl true) : pAll [.lst zs] = some (.bl true) := by
  have e : zs = List.replicate zs.length (.bl true) := List.eq_replicate_iff.mpr ⟨rfl, h⟩
  rw [e]
  show (blsP (List.replicate zs.length (.bl true))).map (fun ns => PV.bl (ns.all id)) = _
  rw [blsP_tt]
  show some (PV.bl ((List.replicate zs.length true).all id)) = _
  congr 2
  exact List.all_eq_true.mpr fun b hb => (List.mem_replicate.mp hb).2
@[simp] theorem putFP_nil {f : Str} {v : PV} : putFP f v [] = [(f, v)] := rfl
@[simp] theorem putFP_cons {f g : Str} {v x : PV} {r : List (Str × PV)} : putFP f v ((g, x) :: r) = if g = f then (g, v) :: r else (g, x) :: putFP f v r := rfl
end Kp
set_option Elab.async false
set_option linter.all false
set_option maxRecDepth 100000
set_option maxHeartbeats 4000000
namespace A08
open PySem L2 Kp
/-! ### the source of draws -/
def Src (x : PV) : Prop := ∃ (ns : List Int) (k b s c : Int), x = .lst [.frl ns, .int k, .int b, .int s, .int c] ∧ ns.length ≤ 63 ∧ 0 ≤ k
theorem next_ok {x : PV} (h : Src x) : ∃ x' y, f__law_next x [] = some (x', .ret y) ∧ (Src x' ∧ y = .non) := by
  obtain ⟨ns, k, b, s, c, rfl, hn, hk⟩ := h
  refine runI_wq ?_
  simp [m__law_next, N__law_next, stoP]
  refine brS_any (fun x => ∃ v : Int, x = .int v) (fun h => ?_) (fun h => ?_) (fun x ⟨v, e⟩ => ?_)
  · have h' := of_decide_eq_true h
    have q : ns[k.toNat]? = some ns[k.toNat] := List.getElem?_eq_getElem (by omega)
    simp [atI_int hk, q]
  · simp [pSl_frl (Nat.le_trans hn (by decide)), pMul_l, pMod_ii]
  · subst e
    simp [pPow_10_18]
    refine brS_any (fun x => ∃ v : Int, x = .int v) (fun h => ?_) (fun h => ?_) (fun x ⟨z, e⟩ => ?_)
    · simp
    · simp
    · subst e
      simp [pMod_ii, pMul_l]
      exact ⟨ns, _, _, _, _, rfl, hn, by omega⟩
theorem pick_ok {x : PV} {n : Int} (h : Src x) (hn : 0 < n) (hn2 : n < 1073741824) : ∃ x' y, f__law_pick x [.int n] = some (x', .ret y) ∧ (Src x' ∧ ∃ i : Nat, y = .int i ∧ (i : Int) < n) := by
  obtain ⟨ns, k, b, s, c, rfl, hl, hk⟩ := h
  refine runI_wq ?_
  simp [m__law_pick, N__law_pick, stoP]
  refine brS_intro (fun h => ?_) (fun h => ?_)
  · simp [pMod_ii hn, pDiv_ii hn hn2]
    refine ⟨⟨ns, _, _, _, _, rfl, hl, hk⟩, (b % n).toNat, ?_, ?_⟩
    · have := Int.emod_nonneg b (Int.ne_of_gt hn)
      omega
    · have := Int.emod_nonneg b (Int.ne_of_gt hn)
      have := Int.emod_lt_of_pos b hn
      omega
  · simp [pMod_ii, pMul_l, pMul_r]
    have l0 := Int.emod_nonneg (s * 48271 + (c + 1) * 1234577 + 7) (show (2147483647 : Int) ≠ 0 by decide)
    have l1 := Int.emod_lt_of_pos (s * 48271 + (c + 1) * 1234577 + 7) (show (0 : Int) < 2147483647 by decide)
    generalize (s * 48271 + (c + 1) * 1234577 + 7) % 2147483647 = low at l0 l1 ⊢
    rw [pMul_l (by omega) (by omega)]
    simp [pMod_ii, pMul_l, pMul_r]
    have h0 := Int.emod_nonneg (low * low + 16807 * (c + 1)) (show (2147483399 : Int) ≠ 0 by decide)
    have h1 := Int.emod_lt_of_pos (low * low + 16807 * (c + 1)) (show (0 : Int) < 2147483399 by decide)
    generalize (low * low + 16807 * (c + 1)) % 2147483399 = high at h0 h1 ⊢
    rw [pMul_l (by omega) (by omega)]
    simp [pMod_ii, pDiv_ii, hn]
    refine ⟨⟨ns, _, _, _, _, rfl, hl, hk⟩, ?_⟩
    generalize high * high % 2147483029 / 11 + low / 7 = z
    refine ⟨(z % n).toNat, ?_, ?_⟩
    · have := Int.emod_nonneg z (Int.ne_of_gt hn)
      omega
    · have := Int.emod_nonneg z (Int.ne_of_gt hn)
      have := Int.emod_lt_of_pos z hn
      omega
theorem one_in_ok {x : PV} {n : Int} (h : Src x) (hn : 0 < n) (hn2 : n < 1073741824) : ∃ x' y, f__law_one_in x [.int n] = some (x', .ret y) ∧ (Src x' ∧ ∃ b, y = .bl b) := by
  obtain ⟨x', y, e, hs, i, rfl, hi⟩ := pick_ok h hn hn2
  refine runI_wq ?_
  simp [m__law_one_in, N__law_one_in, stoP, e]
  exact ⟨hs, by omega⟩
theorem one_of_ok {x : PV} {xs : List PV} (h : Src x) (hn : xs ≠ []) (hn2 : xs.length < 1000) : ∃ x' y, f__law_one_of x [.lst xs] = some (x', .ret y) ∧ (Src x' ∧ y ∈ xs) := by
  have hp : 0 < xs.length := List.length_pos_iff.mpr hn
  obtain ⟨x', y, e, hs, i, rfl, hi⟩ := pick_ok h (n := xs.length) (by omega) (by omega)
  have hi' : i < xs.length := by omega
  have q : xs[i]? = some xs[i] := List.getElem?_eq_getElem hi'
  refine runI_wq ?_
  simp [m__law_one_of, N__law_one_of, stoP, e, atN, q]
  exact hs
/-! ### words -/
def lettersL : List Nat := [97, 98, 99, 100, 101, 102, 103, 104, 105, 106, 107, 108, 109, 110, 111, 112, 113, 114, 115, 116, 117, 118, 119, 120, 121, 122]
theorem letters_cps : Str.cps (Str.ofString "abcdefghijklmnopqrstuvwxyz") = lettersL.toArray := by decide +kernel
theorem lettersL_get : ∀ i : Nat, i < 26 → lettersL[i]? = some (97 + i) := by decide
theorem letter_ok (k : Nat) : f__law_letter [.int k] = some (.ret (.str (chr1 (97 + k % 26)))) := by
  refine runP_eq ?_
  simp [m__law_letter, N__law_letter, stoP, pMod_ii]
  have e : ((k : Int) % 26) = ((k % 26 : Nat) : Int) := by omega
  rw [e, atN]
  have c : tx (Str.ofString "abcdefghijklmnopqrstuvwxyz") = lettersL := by unfold tx; rw [letters_cps]
  rw [c, lettersL_get _ (Nat.mod_lt _ (by decide))]
  simp [chr1]
/-- a word's letters -/
def isLet (c : Nat) : Bool := decide (97 ≤ c) && decide (c ≤ 122)
def lw (w : Str) : Prop := 1 ≤ (tx w).length ∧ (tx w).length ≤ 8 ∧ ∀ c ∈ (tx w), isLet c = true
theorem isLet_26 (k : Nat) : isLet (97 + k % 26) = true := by
  have := Nat.mod_lt k (show 0 < 26 by decide)
  unfold isLet
  rw [decide_eq_true (by omega), decide_eq_true (by omega)]
  rfl
theorem word_ok {x : PV} {n : Nat} (h : Src x) (hn0 : 1 ≤ n) (hn : n ≤ 8) : ∃ x' y, f__law_word x [.int n] = some (x', .ret y) ∧ (Src x' ∧ ∃ w : Str, y = .str w ∧ 1 ≤ (tx w).length ∧ (tx w).length ≤ n ∧ ∀ c ∈ (tx w), isLet c = true) := by
  obtain ⟨x1, y, e, hs, i, rfl, hi⟩ := pick_ok h (n := n) (by omega) (by omega)
  refine runI_wq ?_
  simp [m__law_word, N__law_word, stoP, e, rangeP_len, szL, isStr]
  refine ⟨inR_of (by omega) (by omega), by omega, lcE_inv (fun ys acc S => ∃ x, Src x ∧ S = [some (.i x), some (.p (.int n)), some (.p (.int (1 + (i : Int)))), none] ∧ ∃ cs : List Nat, acc = cs.map (PV.str ∘ chr1) ∧ (∀ c ∈ cs, isLet c = true) ∧ cs.length + ys.length = 1 + i) ?_ ?_ ?_⟩
  · exact ⟨x1, hs, rfl, [], rfl, (by simp), by rw [rangeP_len]; simp; omega⟩
  · rintro y ys acc S ⟨x, hx, rfl, cs, rfl, hc, hl⟩
    obtain ⟨x2, y2, e2, hs2, j, rfl, hj⟩ := pick_ok hx (n := 26) (by decide) (by decide)
    refine ⟨_, by simp; rfl, ?_⟩
    simp [e2, letter_ok]
    refine ⟨x2, hs2, rfl, cs ++ [97 + j % 26], by simp, fun c hc' => ?_, by simp at hl ⊢; omega⟩
    rcases List.mem_append.mp hc' with q | q
    · exact hc c q
    · rw [List.mem_singleton.mp q]
      exact isLet_26 j
  · rintro acc S ⟨x, hx, rfl, cs, rfl, hc, hl⟩
    have hcl : cs.length = 1 + i := by simpa using hl
    simp [pJoin_chars cs (by omega)]
    refine ⟨hx, ?_⟩
    show 1 ≤ cs.length ∧ cs.length ≤ n ∧ ∀ c ∈ cs, isLet c = true
    exact ⟨by omega, by omega, hc⟩
/-- the j-th word near w -/
def near (w : Str) (j : Nat) : Str := cutS w none (some 6) ++ chr1 (97 + j / 26 % 26) ++ chr1 (97 + j % 26)
theorem tx_near (w : Str) (j : Nat) : tx (near w j) = (tx w).take 6 ++ [97 + j / 26 % 26] ++ [97 + j % 26] := by
  unfold near
  rw [tx_append, tx_append, show (some 6 : Option Int) = some ((6 : Nat) : Int) from rfl, cutS_to]
  rfl
theorem near_inj {w : Str} {i j : Nat} (hi : i < 26) (hj : j < 26) (h : near w i = near w j) : i = j := by
  have e : tx (near w i) = tx (near w j) := by rw [h]
  rw [tx_near, tx_near] at e
  have := (List.append_inj' e rfl).2
  simp at this
  omega
theorem near_lw {w : Str} (h1 : (tx w).length ≤ 7) (h : ∀ c ∈ tx w, isLet c = true) (j : Nat) : lw (near w j) := by
  unfold lw
  rw [tx_near]
  refine ⟨by simp, ?_, fun c hc => ?_⟩
  · simp
    omega
  · rcases List.mem_append.mp hc with q | q
    · rcases List.mem_append.mp q with q | q
      · exact h c (List.mem_of_mem_take q)
      · rw [List.mem_singleton.mp q]
        exact isLet_26 _
    · rw [List.mem_singleton.mp q]
      exact isLet_26 _
theorem words_ok {x : PV} {n : Nat} (h : Src x) (hn : n ≤ 6) : ∃ x' y, f__law_words x [.int n, .int 7, .lst []] = some (x', .ret y) ∧ (Src x' ∧ ∃ ws : List Str, y = .lst (ws.map PV.str) ∧ ws.length = n ∧ ws.Nodup ∧ ∀ w ∈ ws, lw w) := by
  refine runI_wq ?_
  simp [m__law_words, N__law_words, stoP, inR_of (show -4611686018427387904 ≤ (n : Int) by omega) (by omega)]
  refine wq_loop (fun ys S => ∃ (x : PV) (ws : List Str) (o5 o6 o7 o8 : Option PV), Src x ∧ S = [some (.i x), some (.p (.int n)), some (.p (.int 7)), some (.p (.lst [])), some (.o (.lst (ws.map PV.str))), o5.map SV.p, o6.map SV.p, o7.map SV.p, o8.map SV.p, none, none] ∧ ws.length + ys.length = n ∧ ws.Nodup ∧ ∀ w ∈ ws, lw w) ?_ ?_ ?_
  · rintro S ⟨x, ws, o5, o6, o7, o8, hx, rfl, hl, hd, hw⟩
    simp
    exact ⟨hx, ws, rfl, by simpa using hl, hd, hw⟩
  · rintro y ys S ⟨x, ws, o5, o6, o7, o8, hx, rfl, hl, hd, hw⟩
    obtain ⟨x2, y2, e2, hs2, w, rfl, hw1, hw2, hw3⟩ := word_ok hx (n := 7) (by decide) (by decide)
    have e2' : f__law_word x [.int 7] = some (x2, .ret (.str w)) := e2
    have hlw : ws.length ≤ 5 := by simp at hl; omega
    refine ⟨_, by simp; rfl, ?_⟩
    simp [e2', szL, rangeP_len]
    refine ⟨inR_of (by omega) (by omega), by omega, lcE_of (lcGo_mapf _ _ (fun _ => true) (fun j => .str (near w j)) fun j hj => ?_) ?_⟩
    · have e3 : pDiv (.int (j : Int)) (.int 26) = some (.int ((j / 26 : Nat) : Int)) := by
        rw [pDiv_ii (by decide) (by decide)]
        rfl
      have hc1 : (cutS w none (some 6)).length ≤ 6 := by
        have := cutS_to w 6
        rw [← tx_len]
        show (tx (cutS w none (some ((6 : Nat) : Int)))).length ≤ 6
        rw [this, List.length_take]
        omega
      have hc2 : ∀ c, (chr1 c).length = 1 := fun _ => rfl
      have e4 : f__law_letter [.int ((j : Int) / 26)] = some (.ret (.str (chr1 (97 + j / 26 % 26)))) := letter_ok (j / 26)
      simp [e3, e4, letter_ok, szL, hc2, len_append, show (cutS w none (some 6)).length + 1 ≤ 16777216 by omega, show (cutS w none (some 6)).length + 1 + 1 ≤ 16777216 by omega]
      rfl
    · have e5 : (PV.str w :: List.map (fun j => PV.str (near w j)) (List.range (ws.length + 1))) = (w :: (List.range (ws.length + 1)).map (near w)).map PV.str := by simp [Function.comp_def]
      simp [szL]
      rw [e5]
      refine ⟨by omega, by omega, lcE_of (lcGo_mapf (w :: (List.range (ws.length + 1)).map (near w)) PV.str (fun c => !decide (c ∈ ws)) PV.str fun c hc => ?_) ?_⟩
      · simp
        all_goals simpa using h
      · have hnd : ((List.range (ws.length + 1)).map (near w)).Nodup := by
          refine List.Pairwise.map _ (fun a b hab e => ?_) (List.Pairwise.and_mem.mp (List.nodup_range (n := ws.length + 1)))
          obtain ⟨ha, hb, hn⟩ := hab
          exact hn (near_inj (by have := List.mem_range.mp ha; omega) (by have := List.mem_range.mp hb; omega) e)
        obtain ⟨c, hc, hcw⟩ := pigeon _ ws hnd (by simp)
        have hne : c ∈ (w :: (List.range (ws.length + 1)).map (near w)).filter (fun c => !decide (c ∈ ws)) := List.mem_filter.mpr ⟨List.mem_cons_of_mem _ hc, by simp [hcw]⟩
        have hall : ∀ d ∈ (w :: (List.range (ws.length + 1)).map (near w)).filter (fun c => !decide (c ∈ ws)), lw d ∧ d ∉ ws := fun d hd => by
          obtain ⟨h1, h2⟩ := List.mem_filter.mp hd
          refine ⟨?_, by simpa using h2⟩
          rcases List.mem_cons.mp h1 with rfl | h1
          · exact ⟨hw1, by omega, hw3⟩
          · obtain ⟨j, _, rfl⟩ := List.mem_map.mp h1
            exact near_lw hw2 hw3 j
        generalize (w :: (List.range (ws.length + 1)).map (near w)).filter (fun c => !decide (c ∈ ws)) = fl at hne hall ⊢
        cases fl with
        | nil => cases hne
        | cons d fl =>
          obtain ⟨h1, h2⟩ := hall d List.mem_cons_self
          simp [szL]
          refine ⟨by omega, x2, hs2, ws ++ [d], ⟨rfl, by simp, ⟨some y, rfl⟩, ⟨some (PV.str w), rfl⟩, ⟨some _, rfl⟩, ⟨some _, rfl⟩⟩, by simp at hl ⊢; omega, ?_, fun v hv => ?_⟩
          · exact List.nodup_append.mpr ⟨hd, by simp, by simp; exact fun a ha e => h2 (e ▸ ha)⟩
          · rcases List.mem_append.mp hv with q | q
            · exact hw v q
            · rw [List.mem_singleton.mp q]
              exact h1
  · exact ⟨x, [], none, none, none, none, h, rfl, by rw [rangeP_len]; simp, List.nodup_nil, by simp⟩
end A08
set_option Elab.async false
set_option linter.all false
set_option maxRecDepth 100000
set_option maxHeartbeats 4000000
namespace A08
open PySem L2 Kp
/-! ### rows that are drawn one by one -/
theorem lcE_draw {vs : List Nat} {g : PV → Sto → Option Sto} {me : M PV} {ys : List PV} {x : PV} {P : Kt (List PV)} (mkS : PV → Sto) (Pin Pit : PV → Prop) (hx : Src x) (hin : ∀ y ∈ ys, Pin y)
    (hstep : ∀ x y, Src x → Pin y → ∃ S1, g y (mkS x) = some S1 ∧ wq me S1 fun z S3 => Pit z ∧ ∃ x', Src x' ∧ wipeS S3 vs = mkS x')
    (k : ∀ zs x', zs.length = ys.length → (∀ z ∈ zs, Pit z) → Src x' → P zs (mkS x')) : lcE (lcGo vs g mYes me ys (mkS x)) P := by
  refine lcE_inv (fun rest acc S => ∃ x, Src x ∧ S = mkS x ∧ (∀ y ∈ rest, Pin y) ∧ (∀ z ∈ acc, Pit z) ∧ acc.length + rest.length = ys.length) ⟨x, hx, rfl, hin, by simp, by simp⟩ ?_ ?_
  · rintro y rest acc S ⟨x, hx, rfl, hin, hacc, hl⟩
    obtain ⟨S1, e1, h1⟩ := hstep x y hx (hin y List.mem_cons_self)
    refine ⟨S1, e1, wq_ret.mpr ⟨fun _ => wq_mono h1 fun z S3 h => ?_, fun q => by cases q⟩⟩
    obtain ⟨hz, x', hx', e⟩ := h
    refine ⟨x', hx', e, fun y hy => hin y (List.mem_cons_of_mem _ hy), fun w hw => ?_, by simp at hl ⊢; omega⟩
    rcases List.mem_append.mp hw with q | q
    · exact hacc w q
    · rw [List.mem_singleton.mp q]
      exact hz
  · rintro acc S ⟨x, hx, rfl, _, hacc, hl⟩
    exact k acc x (by simpa using hl) hacc hx
theorem strs_of : ∀ {zs : List PV} {p : Str → Prop}, (∀ z ∈ zs, ∃ s, z = .str s ∧ p s) → ∃ ss : List Str, zs = ss.map .str ∧ ∀ s ∈ ss, p s
  | [], _, _ => ⟨[], rfl, by simp⟩
  | z :: zs, p, h => by
    obtain ⟨s, rfl, hs⟩ := h z List.mem_cons_self
    obtain ⟨ss, rfl, hss⟩ := strs_of (zs := zs) (p := p) fun z hz => h z (List.mem_cons_of_mem _ hz)
    exact ⟨s :: ss, rfl, fun t ht => by
      rcases List.mem_cons.mp ht with rfl | ht
      · exact hs
      · exact hss t ht⟩
/-! ### the data -/
def note (w : Str) : Str := "*" ++ w
def isTok (s : Str) : Prop := lw s ∨ ∃ w, lw w ∧ s = note w
def isItem (s : Str) : Prop := isTok s ∨ s = ("_" : Str)
def gaps (ws : List Str) : Nat := (ws.filter fun s => decide (s = ("_" : Str))).length
def wayOk (g : Bool) (ws : List Str) : Prop := ws.length ≤ 6 ∧ (∀ s ∈ ws, isItem s) ∧ gaps ws = if g then 1 else 0
def freeOk (ws : List Str) : Prop := ws.length ≤ 6 ∧ ∀ s ∈ ws, isItem s
def scOk (sc : List Str) : Prop := sc = [("work" : Str)] ∨ sc = [("plain" : Str)] ∨ sc = [("quoted" : Str)] ∨ ∃ w, lw w ∧ (sc = [("in" : Str), w] ∨ sc = [("behind" : Str), w])
def patOk (p : List Str) : Prop := (∃ a b, p = [a, ("_" : Str), b] ∧ lw a ∧ lw b) ∨ (1 ≤ p.length ∧ p.length ≤ 3 ∧ ∀ w ∈ p, lw w)
def rw' (ws : List Str) : PV := .tup (ws.map .str)
def oR : Option (List Str) → PV
  | none => .non
  | some w => rw' w
def oS : Option Str → PV
  | none => .non
  | some w => .str w
structure Tm where
  n : Str
  p : List Str
  ws : List (List Str)
  sc : List Str
  fi : Option (List Str)
  tu : Option Str
def Tm.pv (t : Tm) : PV := .tup [.str t.n, rw' t.p, .tup (t.ws.map rw'), rw' t.sc, oR t.fi, oS t.tu]
def gp (p : List Str) : Bool := decide (("_" : Str) ∈ p)
structure Tm.ok (t : Tm) : Prop where
  n : lw t.n
  p : patOk t.p
  l1 : 1 ≤ t.ws.length
  l3 : t.ws.length ≤ 3
  ws : ∀ w ∈ t.ws, wayOk (gp t.p) w
  sc : scOk t.sc
  fi : ∀ w, t.fi = some w → wayOk (gp t.p) w
  tu : ∀ w, t.tu = some w → lw w
inductive Chg where
  | add (t : Tm) | drop (n : Str) | rise (n : Str) | ways (n : Str) (ws : List (List Str)) | first (n : Str) (w : Option (List Str)) | scope (n : Str) (sc : List Str) | say (n w : Str)
def Chg.pv : Chg → PV
  | .add t => .tup [.str "add", t.pv]
  | .drop n => .tup [.str "drop", .str n]
  | .rise n => .tup [.str "rise", .str n]
  | .ways n ws => .tup [.str "ways", .str n, .tup (ws.map rw')]
  | .first n w => .tup [.str "first", .str n, oR w]
  | .scope n sc => .tup [.str "scope", .str n, rw' sc]
  | .say n w => .tup [.str "say", .str n, .str w]
def Chg.ok : Chg → Prop
  | .add t => t.ok
  | .drop n => lw n
  | .rise n => lw n
  | .ways n ws => lw n ∧ 1 ≤ ws.length ∧ ws.length ≤ 3 ∧ ∀ w ∈ ws, freeOk w
  | .first n w => lw n ∧ ∀ u, w = some u → freeOk u
  | .scope n sc => lw n ∧ scOk sc
  | .say n w => lw n ∧ lw w
/-! ### signs -/
theorem tx_us : tx "_" = [95] := by decide +kernel
theorem tx_star : tx "*" = [42] := by decide +kernel
theorem lw_ne {w : Str} (h : lw w) : w ≠ ("_" : Str) := fun e => by
  have := h.2.2 95 (by rw [e, tx_us]; simp)
  cases this
theorem tx_note (w : Str) : tx (note w) = 42 :: tx w := by
  unfold note
  rw [tx_append, tx_star]
  rfl
theorem note_ne {w : Str} : note w ≠ ("_" : Str) := fun e => by
  have : tx (note w) = tx "_" := by rw [e]
  rw [tx_note, tx_us] at this
  cases this
theorem tok_ne {s : Str} (h : isTok s) : s ≠ ("_" : Str) := by
  rcases h with h | ⟨w, h, rfl⟩
  · exact lw_ne h
  · exact note_ne
theorem lw_len {w : Str} (h : lw w) : w.length ≤ 8 := h.2.1
theorem gaps_tok {ws : List Str} (h : ∀ s ∈ ws, isTok s) : gaps ws = 0 := by
  unfold gaps
  rw [List.filter_eq_nil_iff.mpr fun s hs => by simpa using tok_ne (h s hs)]
  rfl
/-! ### ways -/
theorem one_of_t {x : PV} {xs : List PV} (h : Src x) (hn : xs ≠ []) (hn2 : xs.length < 1000) : ∃ x' y, f__law_one_of x [.tup xs] = some (x', .ret y) ∧ (Src x' ∧ y ∈ xs) := by
  have hp : 0 < xs.length := List.length_pos_iff.mpr hn
  obtain ⟨x', y, e, hs, i, rfl, hi⟩ := pick_ok h (n := xs.length) (by omega) (by omega)
  have hi' : i < xs.length := by omega
  have q : xs[i]? = some xs[i] := List.getElem?_eq_getElem hi'
  refine runI_wq ?_
  simp [m__law_one_of, N__law_one_of, stoP, e, atN, q]
  exact hs
theorem one_of_s {x : PV} {ws : List Str} (h : Src x) (hn : ws ≠ []) (hn2 : ws.length < 1000) : ∃ x' w, f__law_one_of x [.lst (ws.map .str)] = some (x', .ret (.str w)) ∧ Src x' ∧ w ∈ ws := by
  obtain ⟨x', y, e, hs, hy⟩ := one_of_ok (xs := ws.map .str) h (by simpa using hn) (by simpa using hn2)
  obtain ⟨w, hw, rfl⟩ := List.mem_map.mp hy
  exact ⟨x', w, e, hs, hw⟩
theorem wide_way_ok {x : PV} {pool : List Str} (h : Src x) (hn : pool ≠ []) (hn2 : pool.length < 100) (hp : ∀ w ∈ pool, lw w) (g : Bool) : ∃ x' y, f__law_wide_way x [.lst (pool.map .str), .bl g] = some (x', .ret y) ∧ (Src x' ∧ ∃ ws, y = rw' ws ∧ wayOk g ws) := by
  obtain ⟨x1, y, e, hs, i, rfl, hi⟩ := pick_ok h (n := 7 - (if g then 1 else 0)) (by cases g <;> decide) (by cases g <;> decide)
  refine runI_wq ?_
  simp [m__law_wide_way, N__law_wide_way, stoP, e, szL, rangeP_len]
  refine ⟨inR_of (by omega) (by cases g <;> simp at hi <;> omega), by cases g <;> simp at hi <;> omega, ?_⟩
  refine lcE_draw (fun x => [some (.i x), some (.p (.lst (pool.map .str))), some (.p (.bl g)), none, none, none]) (fun _ => True) (fun z => ∃ s, z = .str s ∧ lw s) hs (fun _ _ => trivial) (fun x y hx _ => ?_) fun zs x' hl hz hx' => ?_
  · obtain ⟨x2, w, e2, hs2, hw⟩ := one_of_s hx hn (by omega)
    refine ⟨_, by simp; rfl, ?_⟩
    simp [e2]
    exact ⟨hp w hw, hs2⟩
  · obtain ⟨ss, rfl, hss⟩ := strs_of hz
    rw [rangeP_len, List.length_map] at hl
    have hil : ss.length ≤ 6 := by cases g <;> simp at hi <;> omega
    simp [szL]
    refine ⟨by omega, ?_⟩
    refine lcE_draw (fun x => [some (.i x), some (.p (.lst (pool.map .str))), some (.p (.bl g)), some (.p (.lst (ss.map .str))), none, none]) (fun y => ∃ s, y = .str s ∧ lw s) (fun z => ∃ s, z = .str s ∧ isTok s) hx' (fun y hy => ?_) (fun x y hx hy => ?_) fun zs x' hl2 hz2 hx2 => ?_
    · obtain ⟨s, hs', rfl⟩ := List.mem_map.mp hy
      exact ⟨s, rfl, hss s hs'⟩
    · obtain ⟨s, rfl, hs'⟩ := hy
      obtain ⟨x2, b, e2, hs2, b, rfl⟩ := one_in_ok hx (n := 6) (by decide) (by decide)
      refine ⟨_, by simp; rfl, ?_⟩
      simp [e2]
      refine brS_intro (fun hb => ?_) (fun hb => ?_)
      · have hl' := lw_len hs'
        have hst : (Str.ofString "*").length = 1 := by decide +kernel
        simp [szL, hst]
        exact ⟨by omega, .inr ⟨s, hs', rfl⟩, hs2⟩
      · simp
        exact ⟨.inl hs', hs2⟩
    · obtain ⟨ts, rfl, hts⟩ := strs_of hz2
      rw [List.length_map, List.length_map] at hl2
      simp
      cases g with
      | false =>
        simp [rw']
        exact ⟨hx2, ts, rfl, by omega, fun s hs' => .inl (hts s hs'), gaps_tok hts⟩
      | true =>
        simp at hi
        obtain ⟨x3, y3, e3, hs3, j, rfl, hj⟩ := pick_ok hx2 (n := (ts.length : Int) + 1) (by omega) (by omega)
        simp [e3, szL]
        refine ⟨⟨by omega, by omega⟩, hs3, ts.take j ++ [("_" : Str)] ++ ts.drop j, ?_, ?_, ?_, ?_⟩
        · simp [rw', List.map_take, List.map_drop]
        · simp
          omega
        · intro s hs'
          rcases List.mem_append.mp hs' with q | q
          · rcases List.mem_append.mp q with q | q
            · exact .inl (hts s (List.mem_of_mem_take q))
            · exact .inr (List.mem_singleton.mp q)
          · exact .inl (hts s (List.mem_of_mem_drop q))
        · have a1 := gaps_tok (ws := ts.take j) fun s hs' => hts s (List.mem_of_mem_take hs')
          have a2 := gaps_tok (ws := ts.drop j) fun s hs' => hts s (List.mem_of_mem_drop hs')
          unfold gaps at a1 a2 ⊢
          rw [List.filter_append, List.filter_append, List.length_append, List.length_append, a1, a2]
          rfl
end A08
set_option Elab.async false
set_option linter.all false
set_option maxRecDepth 100000
set_option maxHeartbeats 4000000
namespace A08
open PySem L2 Kp
theorem map_mem_pv {β : Type} {xs : List β} {f : β → PV} {y : PV} (h : y ∈ xs.map f) : ∃ b ∈ xs, y = f b := by
  obtain ⟨b, hb, rfl⟩ := List.mem_map.mp h
  exact ⟨b, hb, rfl⟩
theorem wide_reach_ok {x : PV} {heads bare : List Str} (h : Src x) (h1 : heads.length ≤ 100) (h2 : bare.length ≤ 100) (hh : ∀ w ∈ heads, lw w) (hb : ∀ w ∈ bare, lw w) : ∃ x' y, f__law_wide_reach x [.lst (heads.map .str), .lst (bare.map .str)] = some (x', .ret y) ∧ (Src x' ∧ ∃ sc, y = rw' sc ∧ scOk sc) := by
  refine runI_wq ?_
  simp [m__law_wide_reach, N__law_wide_reach, stoP, szL]
  refine ⟨by omega, lcE_of (lcGo_mapf heads PV.str (fun _ => true) (fun w => rw' [("in" : Str), w]) fun w hw => ⟨_, by simp; rfl, by simp [rw']⟩) ?_⟩
  simp [szL]
  refine ⟨by omega, by omega, lcE_of (lcGo_mapf bare PV.str (fun _ => true) (fun w => rw' [("behind" : Str), w]) fun w hw => ⟨_, by simp; rfl, by simp [rw']⟩) ?_⟩
  simp [szL]
  obtain ⟨x2, y, e2, hs2, hy⟩ := one_of_ok (xs := PV.tup [.str "work"] :: PV.tup [.str "plain"] :: PV.tup [.str "quoted"] :: (heads.map (fun w => rw' [("in" : Str), w]) ++ bare.map (fun w => rw' [("behind" : Str), w]))) h (by simp) (by simp; omega)
  refine ⟨by omega, ?_⟩
  rw [e2]
  simp
  refine ⟨hs2, ?_⟩
  rcases List.mem_cons.mp hy with rfl | hy
  · exact ⟨[("work" : Str)], rfl, .inl rfl⟩
  rcases List.mem_cons.mp hy with rfl | hy
  · exact ⟨[("plain" : Str)], rfl, .inr (.inl rfl)⟩
  rcases List.mem_cons.mp hy with rfl | hy
  · exact ⟨[("quoted" : Str)], rfl, .inr (.inr (.inl rfl))⟩
  rcases List.mem_append.mp hy with hy | hy
  · obtain ⟨w, hw, rfl⟩ := map_mem_pv hy
    exact ⟨_, rfl, .inr (.inr (.inr ⟨w, hh w hw, .inl rfl⟩))⟩
  · obtain ⟨w, hw, rfl⟩ := map_mem_pv hy
    exact ⟨_, rfl, .inr (.inr (.inr ⟨w, hb w hw, .inr rfl⟩))⟩
theorem rws_of : ∀ {zs : List PV} {p : List Str → Prop}, (∀ z ∈ zs, ∃ s, z = rw' s ∧ p s) → ∃ ss : List (List Str), zs = ss.map rw' ∧ ∀ s ∈ ss, p s
  | [], _, _ => ⟨[], rfl, by simp⟩
  | z :: zs, p, h => by
    obtain ⟨s, rfl, hs⟩ := h z List.mem_cons_self
    obtain ⟨ss, rfl, hss⟩ := rws_of (zs := zs) (p := p) fun z hz => h z (List.mem_cons_of_mem _ hz)
    exact ⟨s :: ss, rfl, fun t ht => by
      rcases List.mem_cons.mp ht with rfl | ht
      · exact hs
      · exact hss t ht⟩
theorem len3 {α : Type} {l : List α} (h : l.length = 3) : ∃ a b c, l = [a, b, c] := by
  match l, h with
  | [a, b, c], _ => exact ⟨a, b, c, rfl⟩
theorem free_way_ok {x : PV} {words : List Str} (h : Src x) (h2 : words.length ≤ 100) (hw : ∀ w ∈ words, lw w) : ∃ x' y, f__law_free_way x [.lst (words.map .str)] = some (x', .ret y) ∧ (Src x' ∧ ∃ ws, y = rw' ws ∧ freeOk ws) := by
  obtain ⟨x1, y, e, hs, i, rfl, hi⟩ := pick_ok h (n := 7) (by decide) (by decide)
  refine runI_wq ?_
  simp [m__law_free_way, N__law_free_way, stoP, e, szL, rangeP_len]
  refine ⟨inR_of (by omega) (by omega), by omega, ?_⟩
  refine lcE_draw (fun x => [some (.i x), some (.p (.lst (words.map .str))), none, none, none]) (fun _ => True) (fun z => ∃ s, z = .str s ∧ (lw s ∨ s = ("_" : Str))) hs (fun _ _ => trivial) (fun x y hx _ => ?_) fun zs x' hl hz hx' => ?_
  · obtain ⟨x2, w, e2, hs2, hw2⟩ := one_of_s (ws := words ++ [("_" : Str)]) hx (by simp) (by simp; omega)
    refine ⟨_, by simp; rfl, ?_⟩
    simp [szL]
    rw [List.map_append] at e2
    refine ⟨by omega, ?_⟩
    have e2' : f__law_one_of x [.lst (words.map .str ++ [.str "_"])] = some (x2, .ret (.str w)) := e2
    simp [e2']
    refine ⟨?_, hs2⟩
    rcases List.mem_append.mp hw2 with q | q
    · exact .inl (hw w q)
    · exact .inr (List.mem_singleton.mp q)
  · obtain ⟨ss, rfl, hss⟩ := strs_of hz
    rw [rangeP_len, List.length_map] at hl
    simp [szL]
    refine ⟨by omega, ?_⟩
    refine lcE_draw (fun x => [some (.i x), some (.p (.lst (words.map .str))), some (.p (.lst (ss.map .str))), none, none]) (fun y => ∃ s, y = .str s ∧ (lw s ∨ s = ("_" : Str))) (fun z => ∃ s, z = .str s ∧ isItem s) hx' (fun y hy => ?_) (fun x y hx hy => ?_) fun zs x' hl2 hz2 hx2 => ?_
    · obtain ⟨s, hs', rfl⟩ := List.mem_map.mp hy
      exact ⟨s, rfl, hss s hs'⟩
    · obtain ⟨s, rfl, hs'⟩ := hy
      obtain ⟨x2, b, e2, hs2, b, rfl⟩ := one_in_ok hx (n := 6) (by decide) (by decide)
      refine ⟨_, by simp; rfl, ?_⟩
      simp
      by_cases q : s = Str.ofString "_"
      · simp [q]
        exact ⟨.inr rfl, hx⟩
      · have hl' : lw s := hs'.resolve_right q
        simp [q, e2]
        refine brS_intro (fun hb => ?_) (fun hb => ?_)
        · have hl2 := lw_len hl'
          have hst : (Str.ofString "*").length = 1 := by decide +kernel
          simp [szL, hst]
          exact ⟨by omega, .inl (.inr ⟨s, hl', rfl⟩), hs2⟩
        · simp
          exact ⟨.inl (.inl hl'), hs2⟩
    · obtain ⟨ts, rfl, hts⟩ := strs_of hz2
      rw [List.length_map, List.length_map] at hl2
      simp [rw']
      exact ⟨hx2, ts, rfl, by omega, hts⟩
theorem us_iff {p : List Str} (h : ∀ w ∈ p, lw w) : gp p = false := by
  unfold gp
  exact decide_eq_false fun q => lw_ne (h _ q) rfl
theorem gp_us {a b : Str} : gp [a, ("_" : Str), b] = true := by
  unfold gp
  exact decide_eq_true (by simp)
theorem wide_term_ok {x : PV} {words heads : List Str} {name : Str} (hhl : heads.length ≤ 100) (hhw : ∀ w ∈ heads, lw w) (h : Src x) (h1 : words.length = 4) (hw : ∀ w ∈ words, lw w) (hn : lw name) :
    ∃ x' y, f__law_wide_term x [.lst (words.map .str), .lst (heads.map .str), .lst (words.map .str), .str name, .tup [.tup [.str "turn", .tup []], .tup [.str name, .tup []]]] = some (x', .ret y) ∧ (Src x' ∧ ∃ t : Tm, y = t.pv ∧ t.ok) := by
  have hne : words ≠ [] := fun e => by rw [e] at h1; cases h1
  obtain ⟨x1, y, e1, hs1, f, rfl, hf⟩ := pick_ok h (n := 5) (by decide) (by decide)
  refine runI_wq ?_
  simp [m__law_wide_term, N__law_wide_term, stoP, e1, szL, rangeP_len]
  refine ⟨inR_of (by omega) (by omega), ?_⟩
  refine lcE_draw (fun x => [some (.i x), some (.p (.lst (words.map .str))), some (.p (.lst (heads.map .str))), some (.p (.lst (words.map .str))), some (.p (.str name)), some (.p (.tup [.tup [.str "turn", .tup []], .tup [.str name, .tup []]])), some (.p (.int f)), none, none, none, none, none, none, none, none]) (fun _ => True) (fun z => ∃ s, z = .str s ∧ lw s) hs1 (fun _ _ => trivial) (fun x y hx _ => ?_) fun zs x2 hl hz hx2 => ?_
  · obtain ⟨x2, w, e2, hs2, hw2⟩ := one_of_s (ws := words) hx hne (by omega)
    refine ⟨_, by simp; rfl, ?_⟩
    simp [e2]
    exact ⟨hw w hw2, hs2⟩
  obtain ⟨ss, rfl, hss⟩ := strs_of hz
  rw [rangeP_len, List.length_map] at hl
  obtain ⟨a, b, c, rfl⟩ := len3 (l := ss) hl
  have ha := hss a (by simp)
  have hb := hss b (by simp)
  have hc := hss c (by simp)
  simp
  refine brS_any (fun z => ∃ p, z = rw' p ∧ patOk p ∧ gp p = decide (f = 3)) (fun q => ?_) (fun q => ?_) (fun z ⟨p, ez, hp, hg⟩ => ?_)
  · have q' : (f : Int) = 3 := by simpa using q
    simp
    exact ⟨[a, ("_" : Str), c], rfl, .inl ⟨a, c, rfl, ha, hc⟩, by rw [gp_us, decide_eq_true (by omega)]⟩
  · have q' : ¬ (f : Int) = 3 := by simpa using q
    have em : ((f : Int) % 3) = ((f % 3 : Nat) : Int) := by omega
    have e1' : (1 : Int) + (f % 3 : Nat) = ((1 + f % 3 : Nat) : Int) := by omega
    simp [pMod_ii]
    rw [em, e1', cutL_to]
    refine ⟨[a, b, c].take (1 + f % 3), by simp [rw', List.map_take], .inr ⟨by simp; omega, by simp; omega, fun w hw' => hss w (List.mem_of_mem_take hw')⟩, ?_⟩
    rw [us_iff fun w hw' => hss w (List.mem_of_mem_take hw'), decide_eq_false (by omega)]
  subst ez
  obtain ⟨x3, y3, e3, hs3, m, rfl, hm⟩ := pick_ok hx2 (n := 3) (by decide) (by decide)
  have ed : decide ((f : Int) = 3) = gp p := by rw [hg]; exact decide_eq_decide.mpr (by omega)
  simp [e3, szL, rangeP_len]
  refine ⟨inR_of (by omega) (by omega), by omega, ?_⟩
  refine lcE_draw (fun x => [some (.i x), some (.p (.lst (words.map .str))), some (.p (.lst (heads.map .str))), some (.p (.lst (words.map .str))), some (.p (.str name)), some (.p (.tup [.tup [.str "turn", .tup []], .tup [.str name, .tup []]])), some (.p (.int f)), some (.p (.lst [.str a, .str b, .str c])), some (.p (rw' p)), none, none, none, none, none, none]) (fun _ => True) (fun z => ∃ s, z = rw' s ∧ wayOk (gp p) s) hs3 (fun _ _ => trivial) (fun x y hx _ => ?_) fun zs x4 hl4 hz4 hx4 => ?_
  · obtain ⟨x2, y2, e2, hs2, w, rfl, hw2⟩ := wide_way_ok (pool := words) hx hne (by omega) hw (gp p)
    refine ⟨_, by simp; rfl, ?_⟩
    simp [ed, e2]
    exact ⟨⟨w, rfl, hw2⟩, hs2⟩
  obtain ⟨ways, rfl, hways⟩ := rws_of hz4
  rw [rangeP_len, List.length_map] at hl4
  simp [szL]
  refine ⟨by omega, lcE_of (lcGo_mapf words PV.str (fun w => !decide (w ∈ heads)) PV.str fun w hw' => ⟨_, by simp; rfl, ?_⟩) ?_⟩
  · simp
    all_goals try rfl
  obtain ⟨x5, y5, e5, hs5, sc, rfl, hsc⟩ := wide_reach_ok (heads := heads) (bare := words.filter fun w => !decide (w ∈ heads)) hx4 hhl (Nat.le_trans (List.length_filter_le _ _) (by omega)) hhw (fun w q => hw w (List.mem_filter.mp q).1)
  simp [e5]
  obtain ⟨x6, y6, e6, hs6, bb, rfl⟩ := one_in_ok hs5 (n := 3) (by decide) (by decide)
  simp [e6]
  refine brS_intro (fun q => ?_) (fun q => ?_)
  · obtain ⟨x7, y7, e7, hs7, fi, rfl, hfi⟩ := wide_way_ok (pool := words) hs6 hne (by omega) hw (gp p)
    simp [ed, e7]
    obtain ⟨x8, y8, e8, hs8, b8, rfl⟩ := one_in_ok hs7 (n := 2) (by decide) (by decide)
    simp [e8]
    refine brS_intro (fun q => ?_) (fun q => ?_)
    · obtain ⟨x9, y9, e9, hs9, hy9⟩ := one_of_t (xs := [PV.tup [.str "turn", .tup []], .tup [.str name, .tup []]]) hs8 (by simp) (by simp)
      have : ∃ u, y9 = .tup [.str u, .tup []] ∧ lw u := by
        rcases List.mem_cons.mp hy9 with rfl | hy9
        · exact ⟨_, rfl, by unfold lw; decide +kernel⟩
        · rcases List.mem_cons.mp hy9 with rfl | hy9
          · exact ⟨_, rfl, hn⟩
          · cases hy9
      obtain ⟨u, rfl, hu⟩ := this
      simp [e9]
      exact ⟨hs9, ⟨name, p, ways, sc, some fi, some u⟩, rfl, hn, hp, by show 1 ≤ ways.length; omega, by show ways.length ≤ 3; omega, hways, hsc, fun w hw' => by cases hw'; exact hfi, fun w hw' => by cases hw'; exact hu⟩
    · simp
      exact ⟨hs8, ⟨name, p, ways, sc, some fi, none⟩, rfl, hn, hp, by show 1 ≤ ways.length; omega, by show ways.length ≤ 3; omega, hways, hsc, fun w hw' => by cases hw'; exact hfi, fun w hw' => by cases hw'⟩
  · simp
    obtain ⟨x8, y8, e8, hs8, b8, rfl⟩ := one_in_ok hs6 (n := 2) (by decide) (by decide)
    simp [e8]
    refine brS_intro (fun q => ?_) (fun q => ?_)
    · obtain ⟨x9, y9, e9, hs9, hy9⟩ := one_of_t (xs := [PV.tup [.str "turn", .tup []], .tup [.str name, .tup []]]) hs8 (by simp) (by simp)
      have : ∃ u, y9 = .tup [.str u, .tup []] ∧ lw u := by
        rcases List.mem_cons.mp hy9 with rfl | hy9
        · exact ⟨_, rfl, by unfold lw; decide +kernel⟩
        · rcases List.mem_cons.mp hy9 with rfl | hy9
          · exact ⟨_, rfl, hn⟩
          · cases hy9
      obtain ⟨u, rfl, hu⟩ := this
      simp [e9]
      exact ⟨hs9, ⟨name, p, ways, sc, none, some u⟩, rfl, hn, hp, by show 1 ≤ ways.length; omega, by show ways.length ≤ 3; omega, hways, hsc, fun w hw' => (by cases hw'), fun w hw' => by cases hw'; exact hu⟩
    · simp
      exact ⟨hs8, ⟨name, p, ways, sc, none, none⟩, rfl, hn, hp, by show 1 ≤ ways.length; omega, by show ways.length ≤ 3; omega, hways, hsc, fun w hw' => (by cases hw'), fun w hw' => by cases hw'⟩
end A08
set_option Elab.async false
set_option linter.all false
set_option maxRecDepth 100000
set_option maxHeartbeats 4000000
namespace A08
open PySem L2 Kp
theorem wide_change_ok {x : PV} {words : List Str} (h : Src x) (h1 : words.length = 4) (hw : ∀ w ∈ words, lw w) :
    ∃ x' y, f__law_wide_change x [.lst (words.map .str)] = some (x', .ret y) ∧ (Src x' ∧ ∃ c : Chg, y = c.pv ∧ c.ok) := by
  have hne : words ≠ [] := fun e => by rw [e] at h1; cases h1
  obtain ⟨x0, y0, e0, hs0, rfl⟩ := next_ok h
  obtain ⟨x1, y1, e1, hs1, kd, rfl, hk⟩ := pick_ok hs0 (n := 9) (by decide) (by decide)
  obtain ⟨x2, y2, e2, hs2, n, rfl, hn1, hn2, hn3⟩ := word_ok hs1 (n := 8) (by decide) (by decide)
  have hn : lw n := ⟨hn1, hn2, hn3⟩
  have e2' : f__law_word x1 [.int 8] = some (x2, .ret (.str n)) := e2
  refine runI_wq ?_
  simp [m__law_wide_change, N__law_wide_change, stoP, e0, e1, e2']
  refine brS_intro (fun q => ?_) (fun q => ?_)
  · obtain ⟨x3, y3, e3, hs3, t, rfl, ht⟩ := wide_term_ok (words := words) (heads := words.take 2) (name := n) (by simp; omega) (fun w hw' => hw w (List.mem_of_mem_take hw')) hs2 h1 hw hn
    rw [List.map_take] at e3
    simp
    rw [show (some 2 : Option Int) = some ((2 : Nat) : Int) from rfl, cutL_to, e3]
    simp
    exact ⟨hs3, .add t, rfl, ht⟩
  have q1 : ¬ kd < 2 := by
    simp at q
    omega
  simp
  refine brS_any (fun b => b = decide (kd = 2 ∨ kd = 3)) (fun q => ?_) (fun q => ?_) (fun b eb => ?_)
  · have : (kd : Int) = 2 := by simpa using q
    simp
    omega
  · have : ¬ (kd : Int) = 2 := by simpa using q
    simp
    by_cases h3 : (kd : Int) = 3
    · simp [h3]
      omega
    · simp [h3]
      omega
  subst eb
  refine brS_intro (fun q => ?_) (fun q => ?_)
  · have q2 : kd = 2 ∨ kd = 3 := by simpa using q
    rcases q2 with rfl | rfl
    · simp
      exact ⟨hs2, .drop n, rfl, hn⟩
    · simp
      exact ⟨hs2, .rise n, rfl, hn⟩
  simp
  refine brS_intro (fun q => ?_) (fun q => ?_)
  · obtain ⟨x3, y3, e3, hs3, m, rfl, hm⟩ := pick_ok hs2 (n := 3) (by decide) (by decide)
    simp [e3, szL, rangeP_len]
    refine ⟨inR_of (by omega) (by omega), by omega, ?_⟩
    refine lcE_draw (fun x => [some (.i x), some (.p (.lst (words.map .str))), some (.p (.int kd)), some (.p (.str n)), none, none, none]) (fun _ => True) (fun z => ∃ s, z = rw' s ∧ freeOk s) hs3 (fun _ _ => trivial) (fun x y hx _ => ?_) fun zs x4 hl4 hz4 hx4 => ?_
    · obtain ⟨x2, y2, e2, hs2, w, rfl, hw2⟩ := free_way_ok (words := words) hx (by omega) hw
      refine ⟨_, by simp; rfl, ?_⟩
      simp [e2]
      exact ⟨⟨w, rfl, hw2⟩, hs2⟩
    obtain ⟨ways, rfl, hways⟩ := rws_of hz4
    rw [rangeP_len, List.length_map] at hl4
    simp
    exact ⟨hx4, .ways n ways, rfl, hn, by omega, by omega, hways⟩
  simp
  refine brS_intro (fun q => ?_) (fun q => ?_)
  · simp
    obtain ⟨x3, y3, e3, hs3, b, rfl⟩ := one_in_ok hs2 (n := 3) (by decide) (by decide)
    simp [e3]
    refine brS_intro (fun q => ?_) (fun q => ?_)
    · simp
      exact ⟨hs3, .first n none, rfl, hn, fun u e => by cases e⟩
    · obtain ⟨x4, y4, e4, hs4, w, rfl, hw2⟩ := free_way_ok (words := words) hs3 (by omega) hw
      simp [e4]
      exact ⟨hs4, .first n (some w), rfl, hn, fun u e => by cases e; exact hw2⟩
  simp
  refine brS_intro (fun q => ?_) (fun q => ?_)
  · obtain ⟨x3, y3, e3, hs3, sc, rfl, hsc⟩ := wide_reach_ok (heads := words) (bare := words) hs2 (by omega) (by omega) hw hw
    simp [e3]
    exact ⟨hs3, .scope n sc, rfl, hn, hsc⟩
  · simp [szL]
    obtain ⟨x3, w, e3, hs3, hw3⟩ := one_of_s (ws := words ++ [n]) hs2 (by simp) (by simp; omega)
    rw [List.map_append] at e3
    have e3' : f__law_one_of x2 [.lst (words.map .str ++ [.str n])] = some (x3, .ret (.str w)) := e3
    refine ⟨by omega, ?_⟩
    simp [e3']
    refine ⟨hs3, .say n w, rfl, hn, ?_⟩
    rcases List.mem_append.mp hw3 with q | q
    · exact hw w q
    · rw [List.mem_singleton.mp q]
      exact hn
theorem chgs_of : ∀ {zs : List PV}, (∀ z ∈ zs, ∃ c : Chg, z = c.pv ∧ c.ok) → ∃ cs : List Chg, zs = cs.map Chg.pv ∧ ∀ c ∈ cs, c.ok
  | [], _ => ⟨[], rfl, by simp⟩
  | z :: zs, h => by
    obtain ⟨s, rfl, hs⟩ := h z List.mem_cons_self
    obtain ⟨ss, rfl, hss⟩ := chgs_of (zs := zs) fun z hz => h z (List.mem_cons_of_mem _ hz)
    exact ⟨s :: ss, rfl, fun t ht => by
      rcases List.mem_cons.mp ht with rfl | ht
      · exact hs
      · exact hss t ht⟩
end A08
set_option Elab.async false
set_option linter.all false
set_option maxRecDepth 100000
set_option maxHeartbeats 4000000
namespace A08
open PySem L2 Kp
/-! ### deep -/
def gdv : Nat → PV → Bool
  | _, .non => true
  | _, .bl _ => true
  | _, .int _ => true
  | _, .str _ => true
  | _, .obj c _ => decide (c = 3)
  | d + 1, .tup xs => decide (xs.length ≤ 1000) && xs.all (gdv d)
  | d + 1, .lst xs => decide (xs.length ≤ 1000) && xs.all (gdv d)
  | _, _ => false
def deepN : Nat → PV → PV
  | d + 1, .tup xs => .tup (xs.map (deepN d))
  | d + 1, .lst xs => .tup (xs.map (deepN d))
  | _, x => x
def listsN : Nat → PV → PV
  | d + 1, .tup xs => .lst (xs.map (listsN d))
  | _, x => x
theorem gdv_seq {d : Nat} {xs : List PV} (h : (decide (xs.length ≤ 1000) && xs.all (gdv d)) = true) : xs.length ≤ 1000 ∧ ∀ x ∈ xs, gdv d x = true := by
  rw [Bool.and_eq_true] at h
  exact ⟨of_decide_eq_true h.1, List.all_eq_true.mp h.2⟩
theorem gdv_obj {d c : Nat} {fs : List (Str × PV)} (h : gdv d (.obj c fs) = true) : c = 3 := by
  cases d <;> exact of_decide_eq_true h
theorem deep_d : ∀ (d : Nat) (x : PV), gdv d x = true → fd_deep (d + 1) [x] = some (.ret (deepN d x)) := by
  have seq : ∀ (d : Nat) (xs : List PV) (S : Sto), xs.length ≤ 1000 → (∀ x ∈ xs, fd_deep (d + 1) [x] = some (.ret (deepN d x))) → ∀ a, lcGo [1] (gN 1) mYes (mCall (fd_deep (d + 1)) [mVar 1]) xs [a, none] = some (xs.map (deepN d), [a, none]) := fun d xs S hl ih a => by
    have := lcGo_pure (vs := [1]) (g := gN 1) (mt := mYes) (me := mCall (fd_deep (d + 1)) [mVar 1]) (S := [a, none]) (fun _ => true) (deepN d) (ys := xs) fun y hy => ⟨[a, some (.p y)], by simp, by simp [ih y hy]⟩
    rw [this, filter_tt]
  intro d
  induction d with
  | zero =>
    intro x h
    refine runP_eq ?_
    cases x with
    | obj c fs =>
      have := gdv_obj h
      subst this
      simp [m_deep, N_deep, stoP, ansAny_f, deepN]
    | _ => first | (cases h; done) | simp [m_deep, N_deep, stoP, ansAny_f, deepN]
  | succ d ih =>
    intro x h
    refine runP_eq ?_
    cases x with
    | tup xs =>
      obtain ⟨hl, hx⟩ := gdv_seq h
      simp [m_deep, N_deep, stoP, ansAny_f, ansAny_t, deepN, szL]
      exact ⟨by omega, lcE_of (seq d xs [] hl (fun x hx' => ih x (hx x hx')) _) (by simp)⟩
    | lst xs =>
      obtain ⟨hl, hx⟩ := gdv_seq h
      simp [m_deep, N_deep, stoP, ansAny_f, ansAny_t, deepN, szL]
      exact ⟨by omega, lcE_of (seq d xs [] hl (fun x hx' => ih x (hx x hx')) _) (by simp)⟩
    | obj c fs =>
      have := gdv_obj h
      subst this
      simp [m_deep, N_deep, stoP, ansAny_f, deepN]
    | _ => first | (cases h; done) | simp [m_deep, N_deep, stoP, ansAny_f, deepN]
theorem deep_ok {x : PV} (h : gdv 7 x = true) : f_deep [x] = some (.ret (deepN 7 x)) := deep_d 7 x h
theorem lists_d : ∀ (d : Nat) (x : PV), gdv d x = true → fd__law_lists (d + 1) [x] = some (.ret (listsN d x)) := by
  intro d
  induction d with
  | zero =>
    intro x h
    refine runP_eq ?_
    cases x with
    | obj c fs =>
      have := gdv_obj h
      subst this
      simp [m__law_lists, N__law_lists, stoP, listsN]
    | _ => first | (cases h; done) | simp [m__law_lists, N__law_lists, stoP, listsN]
  | succ d ih =>
    intro x h
    refine runP_eq ?_
    cases x with
    | tup xs =>
      obtain ⟨hl, hx⟩ := gdv_seq h
      simp [m__law_lists, N__law_lists, stoP, listsN, szL]
      refine ⟨by omega, lcE_of (zs := xs.map (listsN d)) (S2 := [some (.p (.tup xs)), none]) ?_ (by simp)⟩
      have := lcGo_pure (vs := [1]) (g := gN 1) (mt := mYes) (me := mCall (fd__law_lists (d + 1)) [mVar 1]) (S := [some (.p (.tup xs)), none]) (fun _ => true) (listsN d) (ys := xs) fun y hy => ⟨[some (.p (.tup xs)), some (.p y)], by simp, by simp [ih y (hx y hy)]⟩
      rw [this, filter_tt]
    | obj c fs =>
      have := gdv_obj h
      subst this
      simp [m__law_lists, N__law_lists, stoP, listsN]
    | _ => first | (cases h; done) | simp [m__law_lists, N__law_lists, stoP, listsN]
theorem lists_ok {x : PV} (h : gdv 7 x = true) : f__law_lists [x] = some (.ret (listsN 7 x)) := lists_d 7 x h
theorem deep_lists : ∀ (d : Nat) (x : PV), deepN d (listsN d x) = deepN d x
  | 0, x => rfl
  | d + 1, x => by
    cases x <;> try rfl
    rename_i xs
    show PV.tup ((xs.map (listsN d)).map (deepN d)) = PV.tup (xs.map (deepN d))
    rw [List.map_map]
    congr 1
    exact List.map_congr_left fun x _ => deep_lists d x
theorem gdv_lists : ∀ (d : Nat) (x : PV), gdv d x = true → gdv d (listsN d x) = true
  | 0, x, h => h
  | d + 1, x, h => by
    cases x <;> try exact h
    rename_i xs
    obtain ⟨hl, hx⟩ := gdv_seq h
    show (decide ((xs.map (listsN d)).length ≤ 1000) && (xs.map (listsN d)).all (gdv d)) = true
    rw [List.length_map, decide_eq_true hl, Bool.true_and, List.all_map]
    exact List.all_eq_true.mpr fun x hm => gdv_lists d x (hx x hm)
/-- tuples alone -/
def gtv : Nat → PV → Bool
  | _, .non => true
  | _, .bl _ => true
  | _, .int _ => true
  | _, .str _ => true
  | _, .obj c _ => decide (c = 3)
  | d + 1, .tup xs => decide (xs.length ≤ 1000) && xs.all (gtv d)
  | _, _ => false
theorem gtv_seq {d : Nat} {xs : List PV} (h : (decide (xs.length ≤ 1000) && xs.all (gtv d)) = true) : xs.length ≤ 1000 ∧ ∀ x ∈ xs, gtv d x = true := by
  rw [Bool.and_eq_true] at h
  exact ⟨of_decide_eq_true h.1, List.all_eq_true.mp h.2⟩
theorem gtv_tup {d : Nat} {xs : List PV} (hl : xs.length ≤ 1000) (h : ∀ x ∈ xs, gtv d x = true) : gtv (d + 1) (.tup xs) = true := by
  show (decide (xs.length ≤ 1000) && xs.all (gtv d)) = true
  rw [decide_eq_true hl, Bool.true_and]
  exact List.all_eq_true.mpr h
theorem gtv_gdv : ∀ (d : Nat) (x : PV), gtv d x = true → gdv d x = true
  | 0, x, h => by cases x <;> first | exact h | cases h
  | d + 1, x, h => by
    cases x <;> first | exact h | skip
    · rename_i xs
      obtain ⟨hl, hx⟩ := gtv_seq h
      show (decide (xs.length ≤ 1000) && xs.all (gdv d)) = true
      rw [decide_eq_true hl, Bool.true_and]
      exact List.all_eq_true.mpr fun x hm => gtv_gdv d x (hx x hm)
    · cases h
theorem gtv_deep : ∀ (d : Nat) (x : PV), gtv d x = true → deepN d x = x
  | 0, x, h => rfl
  | d + 1, x, h => by
    cases x <;> first | rfl | skip
    · rename_i xs
      obtain ⟨hl, hx⟩ := gtv_seq h
      show PV.tup (xs.map (deepN d)) = _
      congr 1
      conv => rhs; rw [← List.map_id xs]
      exact List.map_congr_left fun x hm => gtv_deep d x (hx x hm)
    · cases h
theorem deep_t {x : PV} (h : gtv 7 x = true) : f_deep [x] = some (.ret x) := by
  rw [deep_ok (gtv_gdv 7 x h), gtv_deep 7 x h]
theorem gtv_s {d : Nat} {s : Str} : gtv d (.str s) = true := by cases d <;> rfl
theorem gtv_n {d : Nat} : gtv d .non = true := by cases d <;> rfl
theorem gtv_rw {d : Nat} {ws : List Str} (h : ws.length ≤ 1000) : gtv (d + 1) (rw' ws) = true := by
  refine gtv_tup (by simpa using h) fun x hx => ?_
  obtain ⟨w, _, rfl⟩ := map_mem_pv hx
  exact gtv_s
theorem gtv_rws {d : Nat} {ws : List (List Str)} (h : ws.length ≤ 1000) (h2 : ∀ w ∈ ws, w.length ≤ 1000) : gtv (d + 2) (.tup (ws.map rw')) = true := by
  refine gtv_tup (by simpa using h) fun x hx => ?_
  obtain ⟨w, hw, rfl⟩ := map_mem_pv hx
  exact gtv_rw (h2 w hw)
/-! ### words, notes, tokens -/
def wB (w : Str) : Bool := decide (1 ≤ w.length) && decide (w.length ≤ 8) && (tx w).all isLet
theorem tx_a : tx "a" = [97] := by decide +kernel
theorem tx_z : tx "z" = [122] := by decide +kernel
theorem tx_mk1 (c : Nat) : tx ⟨#[c]⟩ = [c] := rfl
theorem charsP_tx (w : Str) : charsP w = (tx w).map fun c => .str ⟨#[c]⟩ := rfl
theorem lt1 (c d : Nat) : ([c] : List Nat) < [d] ↔ c < d := by
  rw [List.cons_lt_cons_iff]
  simp
theorem wB_of {w : Str} (h : lw w) : wB w = true := by
  unfold wB
  rw [decide_eq_true (show 1 ≤ w.length from h.1), decide_eq_true (show w.length ≤ 8 from h.2.1)]
  exact List.all_eq_true.mpr h.2.2
theorem is_word_b {w : Str} : f_is_word [.str w] = some (.ret (.bl (wB w))) := by
  refine runP_eq ?_
  simp [m_is_word, N_is_word, stoP, wB]
  by_cases h1 : (1 : Int) ≤ w.length
  · by_cases h2 : (w.length : Int) ≤ 8
    · have h1' : 1 ≤ w.length := by omega
      have h2' : w.length ≤ 8 := by omega
      simp [h1, h2, h1', h2', charsP_tx]
      refine wq_loop (fun ys S => ∃ (cs : List Nat) (o : Option PV), ys = cs.map (fun c => .str ⟨#[c]⟩) ∧ (tx w).all isLet = cs.all isLet ∧ S = [some (.p (.str w)), o.map SV.p]) ?_ ?_ ⟨tx w, none, rfl, rfl, rfl⟩
      · rintro S ⟨cs, o, e, ea, rfl⟩
        have : cs = [] := by simpa using e.symm
        subst this
        simp [ea]
      · rintro y ys S ⟨cs, o, e, ea, rfl⟩
        cases cs with
        | nil => cases e
        | cons c cs =>
          obtain ⟨rfl, rfl⟩ := List.cons.inj e
          refine ⟨_, by simp; rfl, ?_⟩
          simp [tx_a, tx_z, tx_mk1, lt1]
          rw [ea]
          by_cases q1 : c < 97
          · have : isLet c = false := by unfold isLet; rw [decide_eq_false (by omega)]; rfl
            simp [q1, this, tx_a, tx_z, tx_mk1, lt1]
          · by_cases q2 : 122 < c
            · have : isLet c = false := by unfold isLet; rw [decide_eq_false (p := c ≤ 122) (by omega), Bool.and_false]
              simp [q1, q2, this, tx_a, tx_z, tx_mk1, lt1]
            · have : isLet c = true := by unfold isLet; rw [decide_eq_true (by omega), decide_eq_true (by omega)]; rfl
              simp [q1, q2, this, tx_a, tx_z, tx_mk1, lt1]
              exact ⟨cs, rfl, rfl, some _, rfl⟩
    · have h2' : ¬ w.length ≤ 8 := by omega
      simp [h1, h2, h2']
  · have h1' : w.length = 0 := by omega
    simp [h1, h1']
theorem is_word_t {w : Str} (h : lw w) : f_is_word [.str w] = some (.ret (.bl true)) := by rw [is_word_b, wB_of h]
theorem wB_note {w : Str} : wB (note w) = false := by
  unfold wB
  rw [tx_note]
  simp [isLet]
theorem wB_us : wB ("_" : Str) = false := by decide +kernel
theorem is_word_n {w : Str} : f_is_word [.str (note w)] = some (.ret (.bl false)) := by rw [is_word_b, wB_note]
theorem is_word_u : f_is_word [.str "_"] = some (.ret (.bl false)) := by rw [is_word_b, wB_us]
theorem is_note_n {w : Str} (h : lw w) : f_is_note [.str (note w)] = some (.ret (.bl true)) := by
  have e1 : cutS (note w) none (some 1) = "*" := tx_inj (by
    rw [show (some 1 : Option Int) = some ((1 : Nat) : Int) from rfl, cutS_to, tx_note, tx_star]
    rfl)
  have e2 : cutS (note w) (some 1) none = w := tx_inj (by
    rw [show (some 1 : Option Int) = some ((1 : Nat) : Int) from rfl, cutS_from, tx_note]
    rfl)
  refine runP_eq ?_
  simp [m_is_note, N_is_note, stoP, e1, e2, is_word_t h]
theorem is_token_t {s : Str} (h : isTok s) : f_is_token [.str s] = some (.ret (.bl true)) := by
  refine runP_eq ?_
  rcases h with h | ⟨w, h, rfl⟩
  · simp [m_is_token, N_is_token, stoP, is_word_t h]
  · simp [m_is_token, N_is_token, stoP, is_word_n, is_note_n h]
/-! ### patterns, ways, scopes -/
theorem is_pattern_t {p : List Str} (h : patOk p) : f_is_pattern [rw' p] = some (.ret (.bl true)) := by
  refine runP_eq ?_
  rcases h with ⟨a, b, rfl, ha, hb⟩ | ⟨h1, h2, h3⟩
  · have na := lw_ne ha
    have nb := lw_ne hb
    simp [m_is_pattern, N_is_pattern, stoP, rw', enumP]
    refine loop_cons ⟨_, by simp; rfl, ?_⟩
    simp [na, is_word_t ha]
    refine loop_cons ⟨_, by simp; rfl, ?_⟩
    simp
    refine loop_cons ⟨_, by simp; rfl, ?_⟩
    simp [nb, is_word_t hb, loop_nil]
  · match p, h1, h2, h3 with
    | [a], _, _, h3 =>
      have ha := h3 a (by simp)
      simp [m_is_pattern, N_is_pattern, stoP, rw', enumP]
      refine loop_cons ⟨_, by simp; rfl, ?_⟩
      simp [lw_ne ha, is_word_t ha, loop_nil]
    | [a, b], _, _, h3 =>
      have ha := h3 a (by simp)
      have hb := h3 b (by simp)
      simp [m_is_pattern, N_is_pattern, stoP, rw', enumP]
      refine loop_cons ⟨_, by simp; rfl, ?_⟩
      simp [lw_ne ha, is_word_t ha, loop_nil]
      refine loop_cons ⟨_, by simp; rfl, ?_⟩
      simp [lw_ne hb, is_word_t hb, loop_nil]
    | [a, b, c], _, _, h3 =>
      have ha := h3 a (by simp)
      have hb := h3 b (by simp)
      have hc := h3 c (by simp)
      simp [m_is_pattern, N_is_pattern, stoP, rw', enumP]
      refine loop_cons ⟨_, by simp; rfl, ?_⟩
      simp [lw_ne ha, is_word_t ha, loop_nil]
      refine loop_cons ⟨_, by simp; rfl, ?_⟩
      simp [lw_ne hb, is_word_t hb, loop_nil]
      refine loop_cons ⟨_, by simp; rfl, ?_⟩
      simp [lw_ne hc, is_word_t hc, loop_nil]
theorem are_items_t {ws : List Str} (h : freeOk ws) : f_are_items [rw' ws] = some (.ret (.bl true)) := by
  refine runP_eq ?_
  simp [m_are_items, N_are_items, stoP, rw', show ¬ (6 : Int) < ws.length by have := h.1; omega]
  refine wq_loop (fun ys S => ∃ (o : Option PV), (∀ y ∈ ys, ∃ s, y = .str s ∧ isItem s) ∧ S = [some (.p (.tup (ws.map .str))), o.map SV.p]) ?_ ?_ ⟨none, fun y hy => ?_, rfl⟩
  · rintro S ⟨o, _, rfl⟩
    simp
  · rintro y ys S ⟨o, hi, rfl⟩
    obtain ⟨s, rfl, hs⟩ := hi y List.mem_cons_self
    refine ⟨_, by simp; rfl, ?_⟩
    rcases hs with hs | rfl
    · simp [tok_ne hs, is_token_t hs]
      exact ⟨fun y hy => hi y (List.mem_cons_of_mem _ hy), some _, rfl⟩
    · simp
      exact ⟨fun y hy => hi y (List.mem_cons_of_mem _ hy), some _, rfl⟩
  · obtain ⟨w, hw, rfl⟩ := map_mem_pv hy
    exact ⟨w, rfl, h.2 w hw⟩
theorem way_free {g : Bool} {ws : List Str} (h : wayOk g ws) : freeOk ws := ⟨h.1, h.2.1⟩
theorem is_way_t {ws : List Str} {g : Bool} (h : wayOk g ws) : f_is_way [rw' ws, .bl g] = some (.ret (.bl true)) := by
  refine runP_eq ?_
  have hl := h.1
  have e1 : f_deep [rw' ws] = some (.ret (rw' ws)) := deep_t (gtv_rw (by omega))
  have e2 := are_items_t (way_free h)
  simp [m_is_way, N_is_way, stoP, e1, e2]
  simp [rw', szL]
  refine ⟨by omega, lcE_of (lcGo_mapf ws PV.str (fun c => decide (c = "_")) PV.str fun c hc => ⟨_, by simp; rfl, ?_⟩) ?_⟩
  · simp
    all_goals try rfl
  · simp
    have hg := h.2.2
    unfold gaps at hg
    rw [hg]
    cases g <;> simp
theorem is_scope_t {sc : List Str} (h : scOk sc) : f_is_scope [rw' sc] = some (.ret (.bl true)) := by
  refine runP_eq ?_
  have hl : sc.length ≤ 2 := by rcases h with rfl | rfl | rfl | ⟨w, _, rfl | rfl⟩ <;> simp
  have e1 : f_deep [rw' sc] = some (.ret (rw' sc)) := deep_t (gtv_rw (by omega))
  have pl : ∀ a : Str, pHas (.str a) (.tup [.str "work", .str "plain", .str "quoted"]) = some (.bl (decide (a ∈ [("work" : Str), "plain", "quoted"]))) := fun a => pHas_t (ws := [("work" : Str), "plain", "quoted"])
  have pw : ∀ a : Str, pHas (.str a) (.tup [.str "in", .str "behind"]) = some (.bl (decide (a ∈ [("in" : Str), "behind"]))) := fun a => pHas_t (ws := [("in" : Str), "behind"])
  simp [m_is_scope, N_is_scope, stoP, e1]
  rcases h with rfl | rfl | rfl | ⟨w, hw, rfl | rfl⟩
  · simp [rw', pl]
  · simp [rw', pl]
  · simp [rw', pl]
  · simp [rw', pw, is_word_t hw]
  · simp [rw', pw, is_word_t hw]
end A08
set_option Elab.async false
set_option linter.all false
set_option maxRecDepth 100000
set_option maxHeartbeats 4000000
namespace A08
open PySem L2 Kp
/-! ### terms -/
def tObj (t : Tm) : PV := .obj 3 [("name", .str t.n), ("pattern", rw' t.p), ("ways", .tup (t.ws.map rw')), ("scope", rw' t.sc), ("first", oR t.fi), ("turn", oS t.tu)]
theorem pat_len {p : List Str} (h : patOk p) : p.length ≤ 3 := by
  rcases h with ⟨a, b, rfl, _⟩ | ⟨_, h, _⟩
  · simp
  · exact h
theorem sc_len {sc : List Str} (h : scOk sc) : sc.length ≤ 2 := by
  rcases h with rfl | rfl | rfl | ⟨w, _, rfl | rfl⟩ <;> simp
theorem gtv_oR {d : Nat} {o : Option (List Str)} (h : ∀ w, o = some w → w.length ≤ 6) : gtv (d + 1) (oR o) = true := by
  cases o with
  | none => rfl
  | some w => exact gtv_rw (by have := h w rfl; omega)
theorem pHas_us {p : List Str} : pHas (.str "_") (rw' p) = some (.bl (gp p)) := pHas_t
@[simp] theorem lookup_c {f g : Str} {x : PV} {r : List (Str × PV)} : List.lookup f ((g, x) :: r) = if f = g then some x else List.lookup f r := by
  rw [List.lookup_cons]
  by_cases h : f = g
  · rw [if_pos h, h]
    simp
  · rw [if_neg h, beq_eq_false_iff_ne.mpr h]
@[simp] theorem isN_rw {n : Bool} {ws : List Str} : isN n (rw' ws) = .bl n := rfl
@[simp] theorem itA_rw {ws : List Str} : itA (rw' ws) = some (ws.map .str) := rfl
@[simp] theorem pList_rw {ws : List Str} : pList [rw' ws] = some (.lst (ws.map .str)) := rfl
@[simp] theorem pLen_rw {ws : List Str} : pLen [rw' ws] = some (.int ws.length) := by simp [rw']
@[simp] theorem pAdd_trw {xs : List PV} {ws : List Str} : pAdd (.tup xs) (rw' ws) = if xs.length + ws.length ≤ sizeLine then some (.tup (xs ++ ws.map .str)) else none := by simp [rw']
theorem term_init {t : Tm} (h : t.ok) : f_Term___init__ (.obj 3 []) [.str t.n, rw' t.p, .tup (t.ws.map rw'), rw' t.sc, oR t.fi, oS t.tu] = some (tObj t, .ret .non) := by
  have key : ∃ x' y, f_Term___init__ (.obj 3 []) [.str t.n, rw' t.p, .tup (t.ws.map rw'), rw' t.sc, oR t.fi, oS t.tu] = some (x', .ret y) ∧ (x' = tObj t ∧ y = .non) := by
    have h1 := is_word_t h.n
    have hpl := pat_len h.p
    have hsl := sc_len h.sc
    have hwl := h.l3
    have hw0 := h.l1
    have e2 : f_deep [rw' t.p] = some (.ret (rw' t.p)) := deep_t (gtv_rw (by omega))
    have e3 := is_pattern_t h.p
    have e4 : f_deep [.tup (t.ws.map rw')] = some (.ret (.tup (t.ws.map rw'))) := deep_t (gtv_rws (by omega) fun w hw => by have := (h.ws w hw).1; omega)
    have e5 := is_scope_t h.sc
    have e6 : f_deep [rw' t.sc] = some (.ret (rw' t.sc)) := deep_t (gtv_rw (by omega))
    have e7 : f_deep [oR t.fi] = some (.ret (oR t.fi)) := deep_t (gtv_oR fun w hw => (h.fi w hw).1)
    refine runI_wq ?_
    simp [m_Term___init__, N_Term___init__, stoP, h1, e2, e3, e4, pHas_us, szL, show (1 : Int) ≤ t.ws.length by omega, show (t.ws.length : Int) ≤ 3 by omega]
    refine ⟨by omega, lcE_of (zs := t.ws.map fun _ => PV.bl true) (S2 := [some (.i (.obj 3 [])), some (.p (.str t.n)), some (.p (rw' t.p)), some (.p (.tup (t.ws.map rw'))), some (.p (rw' t.sc)), some (.p (oR t.fi)), some (.p (oS t.tu)), some (.p (rw' t.p)), some (.p (.bl (gp t.p))), some (.p (.tup (t.ws.map rw'))), none]) ?_ ?_⟩
    · have := lcGo_mapf (vs := [10]) (g := gN 10) (mt := mYes) (me := mCall f_is_way [mVar 10, mVar 8]) (S := [some (.i (.obj 3 [])), some (.p (.str t.n)), some (.p (rw' t.p)), some (.p (.tup (t.ws.map rw'))), some (.p (rw' t.sc)), some (.p (oR t.fi)), some (.p (oS t.tu)), some (.p (rw' t.p)), some (.p (.bl (gp t.p))), some (.p (.tup (t.ws.map rw'))), none]) t.ws rw' (fun _ => true) (fun _ => PV.bl true) fun w hw => ⟨_, by simp; rfl, by simp [is_way_t (h.ws w hw)]⟩
      rw [this, filter_tt]
    · have ea : pAll [.lst (t.ws.map fun _ => PV.bl true)] = some (.bl true) := pAll_tt fun z hz => by
        obtain ⟨w, _, rfl⟩ := map_mem_pv hz
        rfl
      simp [ea, e5]
      cases ef : t.fi with
      | none =>
        rw [ef] at e7
        cases et : t.tu with
        | none => simp [oR, oS, e6, show f_deep [PV.non] = some (.ret .non) from e7, tObj, ef, et]
        | some u => simp [oR, oS, e6, is_word_t (h.tu u et), show f_deep [PV.non] = some (.ret .non) from e7, tObj, ef, et]
      | some w =>
        rw [ef] at e7
        have hw := is_way_t (h.fi w ef)
        cases et : t.tu with
        | none => simp [oR, oS, e6, hw, show f_deep [rw' w] = some (.ret (rw' w)) from e7, tObj, ef, et]
        | some u => simp [oR, oS, e6, hw, is_word_t (h.tu u et), show f_deep [rw' w] = some (.ret (rw' w)) from e7, tObj, ef, et]
  obtain ⟨x', y, e, rfl, rfl⟩ := key
  exact e
end A08
set_option Elab.async false
set_option linter.all false
set_option maxRecDepth 100000
set_option maxHeartbeats 4000000
namespace A08
open PySem L2 Kp
/-! ### lines -/
theorem wd_of {w : Str} (h : (tx w).length ≤ 20) (h2 : 32 ∉ tx w) : wd w := ⟨h, h2⟩
theorem wd_lw {w : Str} (h : lw w) : wd w := ⟨by have := h.2.1; omega, fun q => by
  have := h.2.2 32 q
  cases this⟩
theorem wd_note {w : Str} (h : lw w) : wd (note w) := by
  unfold wd
  rw [tx_note]
  have := h.2.1
  refine ⟨by simp; omega, fun q => ?_⟩
  rcases List.mem_cons.mp q with q | q
  · cases q
  · have := h.2.2 32 q
    cases this
theorem wd_us : wd ("_" : Str) := by unfold wd; decide +kernel
theorem wd_item {s : Str} (h : isItem s) : wd s := by
  rcases h with (h | ⟨w, h, rfl⟩) | rfl
  · exact wd_lw h
  · exact wd_note h
  · exact wd_us
theorem wds_cons {w : Str} {row : List Str} (hw : wd w) (hl : row.length ≤ 19) (h : ∀ s ∈ row, wd s) : wds (w :: row) :=
  ⟨by simp, by simp; omega, fun s hs => by
    rcases List.mem_cons.mp hs with rfl | hs
    · exact hw
    · exact h s hs⟩
theorem wd_term : wd ("term" : Str) := by unfold wd; decide +kernel
theorem wd_way : wd ("way" : Str) := by unfold wd; decide +kernel
theorem wd_ways : wd ("ways" : Str) := by unfold wd; decide +kernel
theorem wd_first : wd ("first" : Str) := by unfold wd; decide +kernel
theorem wd_scope : wd ("scope" : Str) := by unfold wd; decide +kernel
theorem wd_turns : wd ("turns" : Str) := by unfold wd; decide +kernel
theorem wd_add : wd ("add" : Str) := by unfold wd; decide +kernel
theorem wd_end : wd ("end" : Str) := by unfold wd; decide +kernel
theorem wd_drop : wd ("drop" : Str) := by unfold wd; decide +kernel
theorem wd_rise : wd ("rise" : Str) := by unfold wd; decide +kernel
theorem wd_say : wd ("say" : Str) := by unfold wd; decide +kernel
theorem wd_sc {sc : List Str} (h : scOk sc) : ∀ s ∈ sc, wd s := by
  have h1 : wd ("work" : Str) := by unfold wd; decide +kernel
  have h2 : wd ("plain" : Str) := by unfold wd; decide +kernel
  have h3 : wd ("quoted" : Str) := by unfold wd; decide +kernel
  have h4 : wd ("in" : Str) := by unfold wd; decide +kernel
  have h5 : wd ("behind" : Str) := by unfold wd; decide +kernel
  rcases h with rfl | rfl | rfl | ⟨w, hw, rfl | rfl⟩ <;> intro s hs <;> simp at hs
  · rw [hs]; exact h1
  · rw [hs]; exact h2
  · rw [hs]; exact h3
  · rcases hs with rfl | rfl
    · exact h4
    · exact wd_lw hw
  · rcases hs with rfl | rfl
    · exact h5
    · exact wd_lw hw
theorem wd_pat {p : List Str} (h : patOk p) : ∀ s ∈ p, wd s := by
  rcases h with ⟨a, b, rfl, ha, hb⟩ | ⟨_, _, h⟩
  · intro s hs
    simp at hs
    rcases hs with rfl | rfl | rfl
    · exact wd_lw ha
    · exact wd_us
    · exact wd_lw hb
  · exact fun s hs => wd_lw (h s hs)
theorem wds_way {w : Str} {ws : List Str} (hw : wd w) (h : freeOk ws) : wds (w :: ws) := wds_cons hw (by have := h.1; omega) fun s hs => wd_item (h.2 s hs)
def lnP (ws : List Str) : PV := .str (Ln ws)
theorem ln_one (w : Str) : Ln [w] = w := by
  rw [ln_S]
  exact tx_S w
theorem law_line_ok {w : Str} {row : List Str} (h : wds (w :: row)) : f__law_line [.str w, rw' row] = some (.ret (lnP (w :: row))) := by
  refine runP_eq ?_
  have e := pJoin_ln h
  have hl := h.2.1
  rw [List.map_cons] at e
  simp at hl
  simp [m__law_line, N__law_line, stoP, isStr, szL, e, lnP]
  omega
theorem law_line_l {w : Str} {row : List Str} (h : wds (w :: row)) : f__law_line [.str w, .lst (row.map .str)] = some (.ret (lnP (w :: row))) := by
  refine runP_eq ?_
  have e := pJoin_ln h
  have hl := h.2.1
  rw [List.map_cons] at e
  simp at hl
  simp [m__law_line, N__law_line, stoP, isStr, szL, e, lnP]
  omega
theorem line_of_ok {w : Str} {row : List Str} (h : wds (w :: row)) : f_line_of [.str w, rw' row] = some (.ret (lnP (w :: row))) := by
  refine runP_eq ?_
  have e := pJoin_ln h
  have hl := h.2.1
  rw [List.map_cons] at e
  simp at hl
  simp [m_line_of, N_line_of, stoP, isStr, szL, e, lnP]
  omega
/-! the words of the lines of terms and changes -/
def oL (w : Str) : Option (List Str) → List (List Str)
  | none => []
  | some r => [w :: r]
def oT : Option Str → List (List Str)
  | none => []
  | some r => [["turns", r]]
def scL (sc : List Str) : List (List Str) := if sc = [("work" : Str)] then [] else ["scope" :: sc]
def tmW (t : Tm) : List (List Str) := (("term" : Str) :: t.n :: t.p) :: (t.ws.map (("way" : Str) :: ·) ++ (oL "first" t.fi ++ (scL t.sc ++ oT t.tu)))
def Chg.W : Chg → List (List Str)
  | .add t => [("add" : Str)] :: (tmW t ++ [[("end" : Str)]])
  | .drop n => [["drop", n]]
  | .rise n => [["rise", n]]
  | .ways n ws => ["ways", n] :: (ws.map (("way" : Str) :: ·) ++ [[("end" : Str)]])
  | .first n w => ["first", n] :: (oL "way" w ++ [[("end" : Str)]])
  | .scope n sc => ["scope" :: n :: sc]
  | .say n w => [["say", n, w]]
@[simp] theorem pne_work (sc : List Str) : pNe (rw' sc) (.tup [.str "work"]) = some (.bl (!decide (sc = [("work" : Str)]))) := pNe_strs sc [("work" : Str)]
theorem rw_cons (w : Str) (ws : List Str) : rw' (w :: ws) = .tup (.str w :: ws.map .str) := rfl
theorem law_term_lines_ok {t : Tm} (h : t.ok) : f__law_term_lines [t.pv] = some (.ret (.lst ((tmW t).map lnP))) := by
  have hpl := pat_len h.p
  have hsl := sc_len h.sc
  have hwl := h.l3
  have e1 : f__law_line [.str "term", .tup (.str t.n :: t.p.map .str)] = some (.ret (lnP ("term" :: t.n :: t.p))) := law_line_ok (row := t.n :: t.p) (wds_cons wd_term (by simp; omega) fun s hs => by
    rcases List.mem_cons.mp hs with rfl | hs
    · exact wd_lw h.n
    · exact wd_pat h.p s hs)
  have e2 := law_line_ok (wds_cons wd_scope (by omega) (wd_sc h.sc))
  refine runP_eq ?_
  simp [m__law_term_lines, N__law_term_lines, stoP, Tm.pv, szL, show t.p.length + 1 ≤ 16777216 by omega, show 1 + t.p.length ≤ 16777216 by omega, e1]
  refine ⟨by omega, lcE_of (lcGo_mapf t.ws rw' (fun _ => true) (fun w => lnP ("way" :: w)) fun w hw => ⟨_, by simp; rfl, by simp [law_line_ok (wds_way wd_way (way_free (h.ws w hw)))]⟩) ?_⟩
  simp [szL, show 1 + t.ws.length ≤ 16777216 by omega, pne_work, tmW, scL]
  try refine ⟨by omega, ?_⟩
  cases ef : t.fi with
  | none =>
    simp [oR, oL]
    by_cases hs : t.sc = [Str.ofString "work"]
    · simp [hs]
      cases et : t.tu with
      | none => simp [oS, oT]
      | some u =>
        have e3 : f__law_line [.str "turns", .tup [.str u]] = some (.ret (lnP ["turns", u])) := law_line_ok (row := [u]) (wds_cons wd_turns (by simp) fun s hs => by rw [List.mem_singleton.mp hs]; exact wd_lw (h.tu u et))
        simp [oS, oT, e3, szL]
        try omega
    · simp [hs, e2, szL]
      try refine ⟨by omega, ?_⟩
      cases et : t.tu with
      | none => simp [oS, oT]
      | some u =>
        have e3 : f__law_line [.str "turns", .tup [.str u]] = some (.ret (lnP ["turns", u])) := law_line_ok (row := [u]) (wds_cons wd_turns (by simp) fun s hs => by rw [List.mem_singleton.mp hs]; exact wd_lw (h.tu u et))
        simp [oS, oT, e3, szL]
        try omega
  | some w =>
    have ew := law_line_ok (wds_way wd_first (way_free (h.fi w ef)))
    simp [oR, oL, ew, szL]
    try refine ⟨by omega, ?_⟩
    by_cases hs : t.sc = [Str.ofString "work"]
    · simp [hs]
      cases et : t.tu with
      | none => simp [oS, oT]
      | some u =>
        have e3 : f__law_line [.str "turns", .tup [.str u]] = some (.ret (lnP ["turns", u])) := law_line_ok (row := [u]) (wds_cons wd_turns (by simp) fun s hs => by rw [List.mem_singleton.mp hs]; exact wd_lw (h.tu u et))
        simp [oS, oT, e3, szL]
        try omega
    · simp [hs, e2, szL]
      try refine ⟨by omega, ?_⟩
      cases et : t.tu with
      | none => simp [oS, oT]
      | some u =>
        have e3 : f__law_line [.str "turns", .tup [.str u]] = some (.ret (lnP ["turns", u])) := law_line_ok (row := [u]) (wds_cons wd_turns (by simp) fun s hs => by rw [List.mem_singleton.mp hs]; exact wd_lw (h.tu u et))
        simp [oS, oT, e3, szL]
        try omega
theorem write_term_ok {t : Tm} (h : t.ok) : f_write_term [tObj t] = some (.ret (.tup ((tmW t).map lnP))) := by
  have hpl := pat_len h.p
  have hsl := sc_len h.sc
  have hwl := h.l3
  have e1 : f_line_of [.str "term", .tup (.str t.n :: t.p.map .str)] = some (.ret (lnP ("term" :: t.n :: t.p))) := line_of_ok (row := t.n :: t.p) (wds_cons wd_term (by simp; omega) fun s hs => by
    rcases List.mem_cons.mp hs with rfl | hs
    · exact wd_lw h.n
    · exact wd_pat h.p s hs)
  have e2 := line_of_ok (wds_cons wd_scope (by omega) (wd_sc h.sc))
  refine runP_eq ?_
  simp [m_write_term, N_write_term, stoP, tObj, szL, show t.p.length + 1 ≤ 16777216 by omega, show 1 + t.p.length ≤ 16777216 by omega, e1]
  refine wq_loop (fun ys S => ∃ (dn rest : List (List Str)) (o : Option PV), ys = rest.map rw' ∧ t.ws = dn ++ rest ∧ S = [some (.p (tObj t)), some (.o (.lst (lnP ("term" :: t.n :: t.p) :: dn.map (fun w => lnP ("way" :: w))))), o.map SV.p]) ?_ ?_ ⟨[], t.ws, none, rfl, rfl, rfl⟩
  · rintro S ⟨dn, rest, o, er, ed, rfl⟩
    have : rest = [] := by simpa using er.symm
    subst this
    rw [List.append_nil] at ed
    subst ed
    simp [tObj, szL, pne_work, tmW, scL]
    cases ef : t.fi with
    | none =>
      simp [oR, oL]
      by_cases hs : t.sc = [Str.ofString "work"]
      · simp [hs]
        cases et : t.tu with
        | none => simp [oS, oT]
        | some u =>
          have e3 : f_line_of [.str "turns", .tup [.str u]] = some (.ret (lnP ["turns", u])) := line_of_ok (row := [u]) (wds_cons wd_turns (by simp) fun s hs => by rw [List.mem_singleton.mp hs]; exact wd_lw (h.tu u et))
          simp [oS, oT, e3, szL]
          try omega
      · simp [hs, e2, szL]
        try refine ⟨by omega, ?_⟩
        cases et : t.tu with
        | none => simp [oS, oT]
        | some u =>
          have e3 : f_line_of [.str "turns", .tup [.str u]] = some (.ret (lnP ["turns", u])) := line_of_ok (row := [u]) (wds_cons wd_turns (by simp) fun s hs => by rw [List.mem_singleton.mp hs]; exact wd_lw (h.tu u et))
          simp [oS, oT, e3, szL]
          try omega
    | some w =>
      have ew := line_of_ok (wds_way wd_first (way_free (h.fi w ef)))
      simp [oR, oL, ew, szL]
      try refine ⟨by omega, ?_⟩
      by_cases hs : t.sc = [Str.ofString "work"]
      · simp [hs]
        cases et : t.tu with
        | none => simp [oS, oT]
        | some u =>
          have e3 : f_line_of [.str "turns", .tup [.str u]] = some (.ret (lnP ["turns", u])) := line_of_ok (row := [u]) (wds_cons wd_turns (by simp) fun s hs => by rw [List.mem_singleton.mp hs]; exact wd_lw (h.tu u et))
          simp [oS, oT, e3, szL]
          try omega
      · simp [hs, e2, szL]
        try refine ⟨by omega, ?_⟩
        cases et : t.tu with
        | none => simp [oS, oT]
        | some u =>
          have e3 : f_line_of [.str "turns", .tup [.str u]] = some (.ret (lnP ["turns", u])) := line_of_ok (row := [u]) (wds_cons wd_turns (by simp) fun s hs => by rw [List.mem_singleton.mp hs]; exact wd_lw (h.tu u et))
          simp [oS, oT, e3, szL]
          try omega
  · rintro y ys S ⟨dn, rest, o, er, ed, rfl⟩
    cases rest with
    | nil => cases er
    | cons w rest =>
      obtain ⟨rfl, rfl⟩ := List.cons.inj er
      have hdl : dn.length ≤ 3 := by
        have := congrArg List.length ed
        simp at this
        try omega
      have hw := h.ws w (by rw [ed]; simp)
      refine ⟨_, by simp; rfl, ?_⟩
      simp [line_of_ok (wds_way wd_way (way_free hw)), szL]
      refine ⟨by omega, dn ++ [w], rest, ⟨rfl, by rw [ed]; simp, by simp, some _, rfl⟩⟩
end A08
set_option Elab.async false
set_option linter.all false
set_option maxRecDepth 100000
set_option maxHeartbeats 4000000
namespace A08
open PySem L2 Kp
/-! ### lines of a change -/
def Chg.md : Chg → PV
  | .add t => .tup [.str "add", tObj t]
  | c => c.pv
@[simp] theorem cut12_3 {a b c : PV} : cutL [a, b, c] (some 1) (some 2) = [b] := rfl
@[simp] theorem cut12_2 {a b : PV} : cutL [a, b] (some 1) (some 2) = [b] := rfl
@[simp] theorem cut1_2 {a b : PV} : cutL [a, b] (some 1) none = [b] := rfl
@[simp] theorem cut1_3 {a b c : PV} : cutL [a, b, c] (some 1) none = [b, c] := rfl
theorem tm_len {t : Tm} (h : t.ok) : (tmW t).length ≤ 8 := by
  have := h.l3
  unfold tmW
  cases t.fi <;> cases t.tu <;> unfold scL <;> split <;> simp [oL, oT] <;> omega
theorem W_len {c : Chg} (h : c.ok) : c.W.length ≤ 10 := by
  cases c with
  | add t =>
    have := tm_len h
    simp [Chg.W]
    omega
  | ways n ws =>
    have := h.2.2.1
    simp [Chg.W]
    omega
  | first n w => cases w <;> simp [Chg.W, oL]
  | _ => simp [Chg.W]
theorem lnP_one (w : Str) : PV.str w = lnP [w] := by unfold lnP; rw [ln_one]
theorem wds2 {a b : Str} (h1 : wd a) (h2 : wd b) : wds [a, b] := wds_cons h1 (by simp) fun s hs => by rw [List.mem_singleton.mp hs]; exact h2
theorem wds3 {a b c : Str} (h1 : wd a) (h2 : wd b) (h3 : wd c) : wds [a, b, c] := wds_cons h1 (by simp) fun s hs => by
  simp at hs
  rcases hs with rfl | rfl
  · exact h2
  · exact h3
theorem law_line1 {a b : Str} (h1 : wd a) (h2 : wd b) : f__law_line [.str a, .tup [.str b]] = some (.ret (lnP [a, b])) := law_line_ok (row := [b]) (wds2 h1 h2)
theorem law_line2 {a b c : Str} (h1 : wd a) (h2 : wd b) (h3 : wd c) : f__law_line [.str a, .tup [.str b, .str c]] = some (.ret (lnP [a, b, c])) := law_line_ok (row := [b, c]) (wds3 h1 h2 h3)
theorem line_of1 {a b : Str} (h1 : wd a) (h2 : wd b) : f_line_of [.str a, .tup [.str b]] = some (.ret (lnP [a, b])) := line_of_ok (row := [b]) (wds2 h1 h2)
theorem line_of2 {a b c : Str} (h1 : wd a) (h2 : wd b) (h3 : wd c) : f_line_of [.str a, .tup [.str b, .str c]] = some (.ret (lnP [a, b, c])) := line_of_ok (row := [b, c]) (wds3 h1 h2 h3)
theorem wds_scope {n : Str} {sc : List Str} (h1 : lw n) (h : scOk sc) : wds ("scope" :: n :: sc) := wds_cons wd_scope (by have := sc_len h; simp; omega) fun s hs => by
  rcases List.mem_cons.mp hs with rfl | hs
  · exact wd_lw h1
  · exact wd_sc h s hs
theorem law_entry_ok {c : Chg} (h : c.ok) : f__law_entry_lines [c.pv] = some (.ret (.lst (c.W.map lnP))) := by
  refine runP_eq ?_
  cases c with
  | add t =>
    have := tm_len h
    simp [m__law_entry_lines, N__law_entry_lines, stoP, Chg.pv, law_term_lines_ok h, szL, Chg.W, ← lnP_one]
    try omega
  | drop n =>
    simp [m__law_entry_lines, N__law_entry_lines, stoP, Chg.pv, Chg.W, law_line1 wd_drop (wd_lw h)]
  | rise n =>
    simp [m__law_entry_lines, N__law_entry_lines, stoP, Chg.pv, Chg.W, law_line1 wd_rise (wd_lw h)]
  | ways n ws =>
    have h3 := h.2.2.1
    simp [m__law_entry_lines, N__law_entry_lines, stoP, Chg.pv, Chg.W, szL]
    refine ⟨by omega, lcE_of (lcGo_mapf ws rw' (fun _ => true) (fun w => lnP ("way" :: w)) fun w hw => ⟨_, by simp; rfl, by simp [law_line_ok (wds_way wd_way (h.2.2.2 w hw))]⟩) ?_⟩
    simp [law_line1 wd_ways (wd_lw h.1), szL, ← lnP_one]
    try (first | omega | exact ⟨by omega, by omega⟩ | skip)
  | first n w =>
    simp [m__law_entry_lines, N__law_entry_lines, stoP, Chg.pv, Chg.W, szL]
    cases w with
    | none => simp [oR, oL, law_line1 wd_first (wd_lw h.1), szL, ← lnP_one]
    | some u => simp [oR, oL, law_line1 wd_first (wd_lw h.1), law_line_ok (wds_way wd_way (h.2 u rfl)), szL, ← lnP_one]
  | scope n sc =>
    have e := law_line_ok (row := n :: sc) (wds_scope h.1 h.2)
    rw [rw_cons] at e
    have hl := sc_len h.2
    simp [m__law_entry_lines, N__law_entry_lines, stoP, Chg.pv, Chg.W, szL, e]
    try omega
  | say n w =>
    simp [m__law_entry_lines, N__law_entry_lines, stoP, Chg.pv, Chg.W, law_line2 wd_say (wd_lw h.1) (wd_lw h.2)]
theorem entry_ok {c : Chg} (h : c.ok) : f_entry_lines [c.md] = some (.ret (.tup (c.W.map lnP))) := by
  refine runP_eq ?_
  cases c with
  | add t =>
    have := tm_len h
    simp [m_entry_lines, N_entry_lines, stoP, Chg.md, write_term_ok h, szL, Chg.W, ← lnP_one]
    try omega
  | drop n =>
    simp [m_entry_lines, N_entry_lines, stoP, Chg.md, Chg.pv, Chg.W, line_of1 wd_drop (wd_lw h)]
  | rise n =>
    simp [m_entry_lines, N_entry_lines, stoP, Chg.md, Chg.pv, Chg.W, line_of1 wd_rise (wd_lw h)]
  | ways n ws =>
    have h3 := h.2.2.1
    simp [m_entry_lines, N_entry_lines, stoP, Chg.md, Chg.pv, Chg.W, szL, line_of1 wd_ways (wd_lw h.1)]
    refine ⟨by omega, lcE_of (lcGo_mapf ws rw' (fun _ => true) (fun w => lnP ("way" :: w)) fun w hw => ⟨_, by simp; rfl, by simp [line_of_ok (wds_way wd_way (h.2.2.2 w hw))]⟩) ?_⟩
    simp [szL, ← lnP_one]
    try (first | omega | exact ⟨by omega, by omega⟩ | skip)
  | first n w =>
    simp [m_entry_lines, N_entry_lines, stoP, Chg.md, Chg.pv, Chg.W, szL]
    cases w with
    | none => simp [oR, oL, line_of1 wd_first (wd_lw h.1), szL, ← lnP_one]
    | some u => simp [oR, oL, line_of1 wd_first (wd_lw h.1), line_of_ok (wds_way wd_way (h.2 u rfl)), szL, ← lnP_one]
  | scope n sc =>
    have e := line_of_ok (row := n :: sc) (wds_scope h.1 h.2)
    rw [rw_cons] at e
    have hl := sc_len h.2
    simp [m_entry_lines, N_entry_lines, stoP, Chg.md, Chg.pv, Chg.W, szL, e]
    try omega
  | say n w =>
    simp [m_entry_lines, N_entry_lines, stoP, Chg.md, Chg.pv, Chg.W, line_of2 wd_say (wd_lw h.1) (wd_lw h.2)]
/-! ### lines of a row of changes -/
def LW (cs : List Chg) : List (List Str) := cs.flatMap Chg.W
theorem LW_len : ∀ {cs : List Chg}, (∀ c ∈ cs, c.ok) → (LW cs).length ≤ 10 * cs.length
  | [], _ => by simp [LW]
  | c :: cs, h => by
    have h1 := W_len (h c List.mem_cons_self)
    have h2 := LW_len fun d hd => h d (List.mem_cons_of_mem _ hd)
    have e : LW (c :: cs) = c.W ++ LW cs := by simp [LW]
    rw [e, List.length_append, List.length_cons]
    omega
theorem law_log_ok {cs : List Chg} (h : ∀ c ∈ cs, c.ok) (hl : cs.length ≤ 1000) : f__law_log_lines [.tup (cs.map Chg.pv)] = some (.ret (.lst ((LW cs).map lnP))) := by
  refine runP_eq ?_
  simp [m__law_log_lines, N__law_log_lines, stoP]
  refine wq_loop (fun ys S => ∃ (dn rest : List Chg) (o : Option PV), ys = rest.map Chg.pv ∧ cs = dn ++ rest ∧ S = [some (.p (.tup (cs.map Chg.pv))), some (.p (.lst ((LW dn).map lnP))), o.map SV.p]) ?_ ?_ ⟨[], cs, none, rfl, rfl, rfl⟩
  · rintro S ⟨dn, rest, o, er, ed, rfl⟩
    have : rest = [] := by simpa using er.symm
    subst this
    rw [List.append_nil] at ed
    subst ed
    simp
  · rintro y ys S ⟨dn, rest, o, er, ed, rfl⟩
    cases rest with
    | nil => cases er
    | cons c rest =>
      obtain ⟨rfl, rfl⟩ := List.cons.inj er
      have hc := h c (by rw [ed]; simp)
      have hd : ∀ d ∈ dn, d.ok := fun d hd => h d (by rw [ed]; simp [hd])
      have h1 := LW_len hd
      have h2 := W_len hc
      have h3 : dn.length ≤ 1000 := by
        have := congrArg List.length ed
        simp at this
        omega
      refine ⟨_, by simp; rfl, ?_⟩
      simp [law_entry_ok hc, szL]
      exact ⟨by omega, dn ++ [c], rest, ⟨rfl, by rw [ed]; simp, by simp [LW], some _, rfl⟩⟩
theorem write_log_ok {cs : List Chg} {x : PV} (h : ∀ c ∈ cs, c.ok) (hl : cs.length ≤ 1000) (hx : f_deep [x] = some (.ret (.tup (cs.map Chg.md)))) : f_write_log [x] = some (.ret (.tup ((LW cs).map lnP))) := by
  refine runP_eq ?_
  have st : ∀ x : PV, wq (mSeq (mFor (mIterA (mCall f_deep [mVar 0])) (gN 2) (mExt 1 (mCB pList [mCall f_entry_lines [mVar 2]]))) (mRet (mCB pTuple [mVar 1]))) [some (.p x), some (.o (.lst [])), none] (rtP (· = .tup ((LW cs).map lnP))) → wq m_write_log [some (.p x), none, none] (rtP (· = .tup ((LW cs).map lnP))) := fun x q => by
    simp [m_write_log] at q ⊢
    exact q
  refine st x ?_
  simp [hx]
  refine wq_loop (fun ys S => ∃ (dn rest : List Chg) (o : Option PV), ys = rest.map Chg.md ∧ cs = dn ++ rest ∧ S = [some (.p x), some (.o (.lst ((LW dn).map lnP))), o.map SV.p]) ?_ ?_ ⟨[], cs, none, rfl, rfl, rfl⟩
  · rintro S ⟨dn, rest, o, er, ed, rfl⟩
    have : rest = [] := by simpa using er.symm
    subst this
    rw [List.append_nil] at ed
    subst ed
    simp
  · rintro y ys S ⟨dn, rest, o, er, ed, rfl⟩
    cases rest with
    | nil => cases er
    | cons c rest =>
      obtain ⟨rfl, rfl⟩ := List.cons.inj er
      have hc := h c (by rw [ed]; simp)
      have hd : ∀ d ∈ dn, d.ok := fun d hd => h d (by rw [ed]; simp [hd])
      have h1 := LW_len hd
      have h2 := W_len hc
      have h3 : dn.length ≤ 1000 := by
        have := congrArg List.length ed
        simp at this
        omega
      refine ⟨_, by simp; rfl, ?_⟩
      simp [entry_ok hc, szL]
      exact ⟨by omega, dn ++ [c], rest, ⟨rfl, by rw [ed]; simp, by simp [LW], some _, rfl⟩⟩
/-! ### the changes as they are passed -/
theorem gtv_sc {d : Nat} {sc : List Str} (h : scOk sc) : gtv (d + 1) (rw' sc) = true := gtv_rw (by have := sc_len h; omega)
theorem gtv_pv {d : Nat} {c : Chg} (h : c.ok) : gtv (d + 4) c.pv = true := by
  have two : ∀ {a b : PV} {d : Nat}, gtv d a = true → gtv d b = true → gtv (d + 1) (.tup [a, b]) = true := fun ha hb => gtv_tup (by simp) fun x hx => by
    simp at hx
    rcases hx with rfl | rfl
    · exact ha
    · exact hb
  have three : ∀ {a b c : PV} {d : Nat}, gtv d a = true → gtv d b = true → gtv d c = true → gtv (d + 1) (.tup [a, b, c]) = true := fun ha hb hc => gtv_tup (by simp) fun x hx => by
    simp at hx
    rcases hx with rfl | rfl | rfl
    · exact ha
    · exact hb
    · exact hc
  cases c with
  | add t =>
    refine two gtv_s (gtv_tup (by simp) fun x hx => ?_)
    simp at hx
    rcases hx with rfl | rfl | rfl | rfl | rfl | rfl
    · exact gtv_s
    · exact gtv_rw (by have := pat_len h.p; omega)
    · exact gtv_rws (by have := h.l3; omega) fun w hw => by have := (h.ws w hw).1; omega
    · exact gtv_sc h.sc
    · exact gtv_oR fun w hw => (h.fi w hw).1
    · cases t.tu
      · exact gtv_n
      · exact gtv_s
  | drop n => exact two gtv_s gtv_s
  | rise n => exact two gtv_s gtv_s
  | ways n ws => exact three gtv_s gtv_s (gtv_rws (by have := h.2.2.1; omega) fun w hw => by have := (h.2.2.2 w hw).1; omega)
  | first n w => exact three gtv_s gtv_s (gtv_oR fun w hw => (h.2 w hw).1)
  | scope n sc => exact three gtv_s gtv_s (gtv_sc h.2)
  | say n w => exact three gtv_s gtv_s gtv_s
theorem gtv_md {d : Nat} {c : Chg} (h : c.ok) : gtv (d + 4) c.md = true := by
  cases c with
  | add t =>
    refine gtv_tup (by simp) fun x hx => ?_
    simp at hx
    rcases hx with rfl | rfl
    · exact gtv_s
    · rfl
  | drop n => exact gtv_pv (c := .drop n) h
  | rise n => exact gtv_pv (c := .rise n) h
  | ways n ws => exact gtv_pv (c := .ways n ws) h
  | first n w => exact gtv_pv (c := .first n w) h
  | scope n sc => exact gtv_pv (c := .scope n sc) h
  | say n w => exact gtv_pv (c := .say n w) h
theorem deep_lists' : ∀ (e d : Nat) (x : PV), gtv e x = true → deepN e (listsN d x) = x
  | 0, 0, x, h => rfl
  | 0, d + 1, x, h => by cases x <;> first | rfl | cases h
  | e + 1, 0, x, h => gtv_deep (e + 1) x h
  | e + 1, d + 1, x, h => by
    cases x <;> first | rfl | skip
    · rename_i xs
      obtain ⟨hl, hx⟩ := gtv_seq h
      show PV.tup ((xs.map (listsN d)).map (deepN e)) = _
      rw [List.map_map]
      congr 1
      conv => rhs; rw [← List.map_id xs]
      exact List.map_congr_left fun x hm => deep_lists' e d x (hx x hm)
    · cases h
theorem gdv_lists' : ∀ (e d : Nat) (x : PV), gtv e x = true → gdv e (listsN d x) = true
  | 0, 0, x, h => gtv_gdv 0 x h
  | 0, d + 1, x, h => by cases x <;> first | rfl | exact h | cases h
  | e + 1, 0, x, h => gtv_gdv (e + 1) x h
  | e + 1, d + 1, x, h => by
    cases x <;> first | rfl | exact h | skip
    · rename_i xs
      obtain ⟨hl, hx⟩ := gtv_seq h
      show (decide ((xs.map (listsN d)).length ≤ 1000) && (xs.map (listsN d)).all (gdv e)) = true
      rw [List.length_map, decide_eq_true hl, Bool.true_and, List.all_map]
      exact List.all_eq_true.mpr fun x hm => gdv_lists' e d x (hx x hm)
    · cases h
/-- as lists -/
def Chg.ml : Chg → PV
  | .add t => .tup [.str "add", tObj t]
  | c => listsN 7 c.pv
theorem deep_ml {d : Nat} {c : Chg} (h : c.ok) : deepN (d + 4) c.ml = c.md := by
  cases c with
  | add t => exact gtv_deep _ _ (gtv_md (c := .add t) h)
  | drop n => exact deep_lists' _ _ _ (gtv_pv (c := .drop n) h)
  | rise n => exact deep_lists' _ _ _ (gtv_pv (c := .rise n) h)
  | ways n ws => exact deep_lists' _ _ _ (gtv_pv (c := .ways n ws) h)
  | first n w => exact deep_lists' _ _ _ (gtv_pv (c := .first n w) h)
  | scope n sc => exact deep_lists' _ _ _ (gtv_pv (c := .scope n sc) h)
  | say n w => exact deep_lists' _ _ _ (gtv_pv (c := .say n w) h)
theorem gdv_ml {d : Nat} {c : Chg} (h : c.ok) : gdv (d + 4) c.ml = true := by
  cases c with
  | add t => exact gtv_gdv _ _ (gtv_md (c := .add t) h)
  | drop n => exact gdv_lists' _ _ _ (gtv_pv (c := .drop n) h)
  | rise n => exact gdv_lists' _ _ _ (gtv_pv (c := .rise n) h)
  | ways n ws => exact gdv_lists' _ _ _ (gtv_pv (c := .ways n ws) h)
  | first n w => exact gdv_lists' _ _ _ (gtv_pv (c := .first n w) h)
  | scope n sc => exact gdv_lists' _ _ _ (gtv_pv (c := .scope n sc) h)
  | say n w => exact gdv_lists' _ _ _ (gtv_pv (c := .say n w) h)
/-- the three ways of passing: a tuple, a list of lists, a list of one -/
theorem deep_mds {cs : List Chg} (h : ∀ c ∈ cs, c.ok) (hl : cs.length ≤ 1000) : f_deep [.tup (cs.map Chg.md)] = some (.ret (.tup (cs.map Chg.md))) := deep_t (gtv_tup (by simpa using hl) fun x hx => by
  obtain ⟨c, hc, rfl⟩ := map_mem_pv hx
  exact gtv_md (h c hc))
theorem deep_mdl {cs : List Chg} (h : ∀ c ∈ cs, c.ok) (hl : cs.length ≤ 1000) : f_deep [.lst (cs.map Chg.md)] = some (.ret (.tup (cs.map Chg.md))) := by
  rw [deep_ok (x := .lst (cs.map Chg.md))]
  · show some (RO.ret (PV.tup ((cs.map Chg.md).map (deepN 6)))) = _
    rw [List.map_map]
    congr 3
    exact List.map_congr_left fun c hc => gtv_deep 6 _ (gtv_md (d := 2) (h c hc))
  · show (decide ((cs.map Chg.md).length ≤ 1000) && (cs.map Chg.md).all (gdv 6)) = true
    rw [List.length_map, decide_eq_true hl, Bool.true_and, List.all_map]
    exact List.all_eq_true.mpr fun c hc => gtv_gdv 6 _ (gtv_md (d := 2) (h c hc))
theorem deep_mls {cs : List Chg} (h : ∀ c ∈ cs, c.ok) (hl : cs.length ≤ 1000) : f_deep [.lst (cs.map Chg.ml)] = some (.ret (.tup (cs.map Chg.md))) := by
  rw [deep_ok (x := .lst (cs.map Chg.ml))]
  · show some (RO.ret (PV.tup ((cs.map Chg.ml).map (deepN 6)))) = _
    rw [List.map_map]
    congr 3
    exact List.map_congr_left fun c hc => deep_ml (d := 2) (h c hc)
  · show (decide ((cs.map Chg.ml).length ≤ 1000) && (cs.map Chg.ml).all (gdv 6)) = true
    rw [List.length_map, decide_eq_true hl, Bool.true_and, List.all_map]
    exact List.all_eq_true.mpr fun c hc => gdv_ml (d := 2) (h c hc)
theorem law_change_0 {c : Chg} (h : c.ok) : f__law_change [c.pv, .int 0] = some (.ret c.md) := by
  refine runP_eq ?_
  cases c with
  | add t => simp [m__law_change, N__law_change, stoP, Chg.pv, Chg.md, Tm.pv, term_init h]
  | _ => simp [m__law_change, N__law_change, stoP, Chg.pv, Chg.md]
theorem law_change_1 {c : Chg} (h : c.ok) : f__law_change [c.pv, .int 1] = some (.ret c.ml) := by
  have e : f__law_lists [c.pv] = some (.ret (listsN 7 c.pv)) := lists_ok (gtv_gdv _ _ (gtv_pv (d := 3) h))
  refine runP_eq ?_
  cases c with
  | add t => simp [m__law_change, N__law_change, stoP, Chg.pv, Chg.ml, Tm.pv, term_init h]
  | _ =>
    simp only [Chg.pv] at e
    simp [m__law_change, N__law_change, stoP, Chg.pv, Chg.ml, e]
theorem made_0 {cs : List Chg} (h : ∀ c ∈ cs, c.ok) (hl : cs.length ≤ 1000) : f__law_made [.tup (cs.map Chg.pv), .int 0] = some (.ret (.tup (cs.map Chg.md))) := by
  refine runP_eq ?_
  simp [m__law_made, N__law_made, stoP, szL]
  refine ⟨by omega, lcE_of (lcGo_mapf cs Chg.pv (fun _ => true) Chg.md fun c hc => ⟨_, by simp; rfl, by simp [law_change_0 (h c hc)]⟩) ?_⟩
  simp
theorem made_1 {cs : List Chg} (h : ∀ c ∈ cs, c.ok) (hl : cs.length ≤ 1000) : f__law_made [.tup (cs.map Chg.pv), .int 1] = some (.ret (.lst (cs.map Chg.ml))) := by
  refine runP_eq ?_
  simp [m__law_made, N__law_made, stoP, szL]
  refine ⟨by omega, lcE_of (lcGo_mapf cs Chg.pv (fun _ => true) Chg.ml fun c hc => ⟨_, by simp; rfl, by simp [law_change_1 (h c hc)]⟩) ?_⟩
  simp
end A08
set_option Elab.async false
set_option linter.all false
set_option maxRecDepth 100000
set_option maxHeartbeats 4000000
namespace A08
open PySem L2 Kp
/-! ### the reader of lines -/
def LO (rs : List (List Str)) (p : Nat) : PV := .obj 4 [("texts", .lst (rs.map lnP)), ("place", .int p)]
structure Rs (rs : List (List Str)) : Prop where
  w : ∀ r ∈ rs, wds r
  l : rs.length ≤ 1000
structure At (rs : List (List Str)) (p : Nat) (r : List Str) : Prop where
  e : rs[p]? = some r
  w : wds r
  l : p < rs.length
  z : rs.length ≤ 1000
theorem at_of {rs : List (List Str)} {p : Nat} {r : List Str} {tl : List (List Str)} (hR : Rs rs) (hd : rs.drop p = r :: tl) : At rs p r ∧ rs.drop (p + 1) = tl := by
  have e : rs[p]? = some r := by
    have := List.getElem?_drop (xs := rs) (i := p) (j := 0)
    rw [hd] at this
    simpa using this.symm
  have hl : p < rs.length := (List.getElem?_eq_some_iff.mp e).1
  refine ⟨⟨e, hR.w r (List.mem_of_getElem? e), hl, hR.l⟩, ?_⟩
  rw [← List.drop_drop, hd]
  rfl
theorem eq_ok {f : PV → List PV → Option (PV × RO)} {x y z : PV} {xs : List PV} (h : ∃ x' y', f x xs = some (x', .ret y') ∧ (x' = z ∧ y' = y)) : f x xs = some (z, .ret y) := by
  obtain ⟨x', y', e, rfl, rfl⟩ := h
  exact e
section
variable {rs : List (List Str)} {p : Nat} {r : List Str}
theorem lines_init_l (h : rs.length ≤ 1000) : f_Lines___init__ (.obj 4 []) [.lst (rs.map lnP)] = some (LO rs 0, .ret .non) := by
  refine eq_ok (runI_wq ?_)
  simp [m_Lines___init__, N_Lines___init__, stoP, LO]
theorem lines_init_t (h : rs.length ≤ 1000) : f_Lines___init__ (.obj 4 []) [.tup (rs.map lnP)] = some (LO rs 0, .ret .non) := by
  refine eq_ok (runI_wq ?_)
  simp [m_Lines___init__, N_Lines___init__, stoP, LO]
theorem at_ln (h : At rs p r) : atI (rs.map lnP) (p : Int) = some (lnP r) := by
  rw [atN, List.getElem?_map, h.e]
  rfl
theorem line_words_ok (h : At rs p r) : f_Lines_line_words (LO rs p) [] = some (LO rs p, .ret (.lst (r.map .str))) := by
  refine eq_ok (runI_wq ?_)
  have hl := h.l
  have e : atI (rs.map lnP) (p : Int) = some (.str (Ln r)) := at_ln h
  simp [m_Lines_line_words, N_Lines_line_words, stoP, LO, e, show ¬ (rs.length ≤ p) by omega, isStr, pSplit_ln h.w]
theorem first_word_ok {w : Str} {r' : List Str} (h : At rs p (w :: r')) : f_Lines_first_word (LO rs p) [] = some (LO rs p, .ret (.str w)) := by
  refine eq_ok (runI_wq ?_)
  have hl := h.l
  have e := line_words_ok h
  simp only [LO] at e ⊢
  simp [m_Lines_first_word, N_Lines_first_word, stoP, show ¬ (rs.length ≤ p) by omega, e]
theorem first_word_end (h : rs.length ≤ p) : f_Lines_first_word (LO rs p) [] = some (LO rs p, .ret .non) := by
  refine eq_ok (runI_wq ?_)
  simp [m_Lines_first_word, N_Lines_first_word, stoP, LO, h]
theorem many_words_ok (h : At rs p r) : f_Lines_many_words (LO rs p) [] = some (LO rs p, .ret (.int r.length)) := by
  refine eq_ok (runI_wq ?_)
  have e := line_words_ok h
  simp only [LO] at e ⊢
  simp [m_Lines_many_words, N_Lines_many_words, stoP, e]
theorem word_at_ok {k : Nat} {w : Str} (h : At rs p r) (hk : r[k]? = some w) : f_Lines_word_at (LO rs p) [.int k] = some (LO rs p, .ret (.str w)) := by
  refine eq_ok (runI_wq ?_)
  have e := line_words_ok h
  have hkl : k < r.length := (List.getElem?_eq_some_iff.mp hk).1
  have e2 : atI (r.map PV.str) (k : Int) = some (.str w) := by
    rw [atN, List.getElem?_map, hk]
    rfl
  simp only [LO] at e ⊢
  simp [m_Lines_word_at, N_Lines_word_at, stoP, e, show ¬ (r.length ≤ k) by omega, e2]
theorem name_at_ok {k : Nat} {w : Str} (h : At rs p r) (hk : r[k]? = some w) (hw : lw w) : f_Lines_name_at (LO rs p) [.int k] = some (LO rs p, .ret (.str w)) := by
  refine eq_ok (runI_wq ?_)
  have e := word_at_ok h hk
  simp only [LO] at e ⊢
  simp [m_Lines_name_at, N_Lines_name_at, stoP, e, is_word_t hw]
def okIt (notes : Bool) (s : Str) : Prop := lw s ∨ s = ("_" : Str) ∨ (notes = true ∧ ∃ w, lw w ∧ s = note w)
theorem item_at_ok {k : Nat} {w : Str} {n : Bool} (h : At rs p r) (hk : r[k]? = some w) (hw : okIt n w) : f_Lines_item_at (LO rs p) [.int k, .bl n] = some (LO rs p, .ret (.str w)) := by
  refine eq_ok (runI_wq ?_)
  have e := word_at_ok h hk
  simp only [LO] at e ⊢
  rcases hw with hw | rfl | ⟨rfl, u, hu, rfl⟩
  · simp [m_Lines_item_at, N_Lines_item_at, stoP, e, is_word_t hw]
  · simp [m_Lines_item_at, N_Lines_item_at, stoP, e, is_word_u]
  · simp [m_Lines_item_at, N_Lines_item_at, stoP, e, is_word_n, is_note_n hu, show ¬ note u = Str.ofString "_" from note_ne]
theorem want_word_ok {w : Str} {r' : List Str} (h : At rs p (w :: r')) : f_Lines_want_word (LO rs p) [.str w] = some (LO rs p, .ret .non) := by
  refine eq_ok (runI_wq ?_)
  have e := line_words_ok h
  simp only [LO] at e ⊢
  simp [m_Lines_want_word, N_Lines_want_word, stoP, e]
theorem close_at_ok {k : Nat} (h : At rs p r) (hk : r.length ≤ k) : f_Lines_close_at (LO rs p) [.int k] = some (LO rs (p + 1), .ret .non) := by
  refine eq_ok (runI_wq ?_)
  have e := line_words_ok h
  simp only [LO] at e ⊢
  simp [m_Lines_close_at, N_Lines_close_at, stoP, e, show ¬ (k < r.length) by omega]
end
/-! ### rows of items -/
@[simp] theorem isMO_LO {m : Str} {rs : List (List Str)} {p : Nat} : isMO 4 m (some (some (.i (LO rs p)))) = ((("texts", PV.non) :: [(("place" : Str), PV.non)] : List (Str × PV)).lookup m).isNone := by
  unfold LO
  rw [isMO_i]
  simp only [lookup_c]
  by_cases h1 : m = Str.ofString "texts"
  · simp [h1]
  · by_cases h2 : m = Str.ofString "place"
    · simp [h2]
    · simp [h1, h2]
@[simp] theorem isMO_LOo {m : Str} {rs : List (List Str)} {p : Nat} : isMO 4 m (some (some (.o (LO rs p)))) = ((("texts", PV.non) :: [(("place" : Str), PV.non)] : List (Str × PV)).lookup m).isNone := isMO_LO (p := p) (rs := rs)
theorem items_ok {rs : List (List Str)} {p : Nat} {pre its : List Str} {tl : List (List Str)} {a least most : Nat} {n : Bool} (hR : Rs rs) (hd : rs.drop p = (pre ++ its) :: tl) (ha : pre.length = a) (ha2 : a ≤ 10) (h1 : least ≤ its.length) (h2 : its.length ≤ most) (h3 : most ≤ 6) (hi : ∀ s ∈ its, okIt n s) :
    f_items_from (LO rs p) [.int a, .int least, .int most, .bl n] = some (LO rs (p + 1), .ret (rw' its)) := by
  obtain ⟨hat, _⟩ := at_of hR hd
  have em := many_words_ok hat
  refine eq_ok (runI_wq ?_)
  simp [m_items_from, N_items_from, stoP]
  refine wq_while (fun n' S => ∃ dn rest, its = dn ++ rest ∧ rest.length = n' ∧ S = [some (.i (LO rs p)), some (.p (.int a)), some (.p (.int least)), some (.p (.int most)), some (.p (.bl n)), some (.o (.lst (dn.map .str)))]) ?_ ?_ its.length 200 _ ⟨[], its, rfl, rfl, rfl⟩ (by omega)
  · rintro S ⟨dn, rest, rfl, hl, rfl⟩
    have : rest = [] := List.eq_nil_of_length_eq_zero hl
    subst this
    rw [List.append_nil] at hat em h1 h2
    have ec : f_Lines_close_at (LO rs p) [.int ((a + dn.length : Nat) : Int)] = some (LO rs (p + 1), .ret .non) := close_at_ok hat (by simp; omega)
    have ec' : f_Lines_close_at (LO rs p) [.int ((a : Int) + (dn.length : Int))] = some (LO rs (p + 1), .ret .non) := ec
    simp [show ¬ (dn.length < least) by omega]
    by_cases q : dn.length < most
    · simp [q, em, ← ha]
      simp [ha, ec', rw']
    · simp [q]
      simp [ec', rw']
  · rintro n' S ⟨dn, rest, rfl, hl, rfl⟩
    cases rest with
    | nil => cases hl
    | cons s rest =>
      have hs := hi s (by simp)
      have hk : (pre ++ (dn ++ s :: rest))[a + dn.length]? = some s := by
        rw [← List.append_assoc, List.getElem?_append_right (by simp; omega)]
        simp [ha]
      have ei : f_Lines_item_at (LO rs p) [.int ((a + dn.length : Nat) : Int), .bl n] = some (LO rs p, .ret (.str s)) := item_at_ok hat hk hs
      have ei' : f_Lines_item_at (LO rs p) [.int ((a : Int) + (dn.length : Int)), .bl n] = some (LO rs p, .ret (.str s)) := ei
      simp at h2
      have q2 : dn.length < most := by omega
      have q3 : (a : Int) + dn.length < ((pre ++ (dn ++ s :: rest)).length : Nat) := by simp; omega
      by_cases q : dn.length < least
      · simp [q, ei', szL]
        exact ⟨by omega, dn ++ [s], rest, by simp, by simpa using hl, by simp⟩
      · simp [q, q2, em, ei', szL, show (a : Int) + dn.length < pre.length + ((dn.length : Int) + (rest.length + 1)) by omega]
        exact ⟨by omega, dn ++ [s], rest, by simp, by simpa using hl, by simp⟩
end A08
set_option Elab.async false
set_option linter.all false
set_option maxRecDepth 100000
set_option maxHeartbeats 4000000
namespace A08
open PySem L2 Kp
theorem okIt_item {s : Str} (h : isItem s) : okIt true s := by
  rcases h with (h | ⟨w, h, rfl⟩) | rfl
  · exact .inl h
  · exact .inr (.inr ⟨rfl, w, h, rfl⟩)
  · exact .inr (.inl rfl)
theorem okIt_pat {p : List Str} (h : patOk p) : ∀ s ∈ p, okIt false s := by
  rcases h with ⟨a, b, rfl, ha, hb⟩ | ⟨_, _, h⟩
  · intro s hs
    simp at hs
    rcases hs with rfl | rfl | rfl
    · exact .inl ha
    · exact .inr (.inl rfl)
    · exact .inl hb
  · exact fun s hs => .inl (h s hs)
section
variable {rs : List (List Str)} {p : Nat} {tl : List (List Str)}
theorem way_items {w : Str} {its : List Str} (hR : Rs rs) (hd : rs.drop p = (w :: its) :: tl) (h : freeOk its) : f_items_from (LO rs p) [.int 1, .int 0, .int 6, .bl true] = some (LO rs (p + 1), .ret (rw' its)) :=
  items_ok (pre := [w]) (a := 1) (least := 0) (most := 6) hR hd rfl (by decide) (Nat.zero_le _) h.1 (by decide) fun s hs => okIt_item (h.2 s hs)
theorem pEq_non_s {s : Str} : pEq .non (.str s) = some (.bl false) := by rfl
theorem way_rows_ok {ws : List (List Str)} {w0 : Str} {r0 : List Str} (hR : Rs rs) (hd : rs.drop p = ws.map (("way" : Str) :: ·) ++ (w0 :: r0) :: tl) (h1 : 1 ≤ ws.length) (h3 : ws.length ≤ 3) (hw : ∀ w ∈ ws, freeOk w) (h0 : w0 ≠ ("way" : Str)) :
    f_way_rows (LO rs p) [] = some (LO rs (p + ws.length), .ret (.tup (ws.map rw'))) := by
  cases ws with
  | nil => cases h1
  | cons v ws =>
    have hd1 : rs.drop p = (("way" : Str) :: v) :: (ws.map (("way" : Str) :: ·) ++ (w0 :: r0) :: tl) := hd
    obtain ⟨hat, hd2⟩ := at_of hR hd1
    have ew := want_word_ok hat
    have ei := way_items hR hd1 (hw v List.mem_cons_self)
    refine eq_ok (runI_wq ?_)
    simp [m_way_rows, N_way_rows, stoP, ew, ei]
    refine wq_while (fun n' S => ∃ dn rest, ws = dn ++ rest ∧ rest.length = n' ∧ S = [some (.i (LO rs (p + 1 + dn.length))), some (.o (.lst (rw' v :: dn.map rw')))] ∧ rs.drop (p + 1 + dn.length) = rest.map (("way" : Str) :: ·) ++ (w0 :: r0) :: tl) ?_ ?_ ws.length 200 _ ⟨[], ws, rfl, rfl, rfl, hd2⟩ (by simp at h3; omega)
    · rintro S ⟨dn, rest, rfl, hl, rfl, hd3⟩
      have : rest = [] := List.eq_nil_of_length_eq_zero hl
      subst this
      obtain ⟨hat3, _⟩ := at_of hR (show rs.drop (p + 1 + dn.length) = (w0 :: r0) :: tl from hd3)
      have ef := first_word_ok hat3
      have h0' : ¬ w0 = Str.ofString "way" := h0
      have ep : p + 1 + dn.length = p + (dn.length + 1) := by omega
      rw [ep] at ef
      by_cases q : (dn.length : Int) + 1 < 3
      · simp [q, ef, h0', ep]
      · simp [q, ep]
    · rintro n' S ⟨dn, rest, rfl, hl, rfl, hd3⟩
      cases rest with
      | nil => cases hl
      | cons s rest =>
        have hd4 : rs.drop (p + 1 + dn.length) = (("way" : Str) :: s) :: (rest.map (("way" : Str) :: ·) ++ (w0 :: r0) :: tl) := hd3
        obtain ⟨hat4, hd5⟩ := at_of hR hd4
        have ef := first_word_ok hat4
        have ei4 := way_items hR hd4 (hw s (by simp))
        simp at h3
        simp [show (dn.length : Int) + 1 < 3 by omega, ef, ei4, szL]
        refine ⟨by omega, dn ++ [s], rest, by simp, by simpa using hl, ⟨by simp; congr 1, by simp⟩, by simpa [Nat.add_assoc] using hd5⟩
theorem end_line_ok (hR : Rs rs) (hd : rs.drop p = [("end" : Str)] :: tl) : f_end_line (LO rs p) [] = some (LO rs (p + 1), .ret .non) := by
  obtain ⟨hat, _⟩ := at_of hR hd
  have ew := want_word_ok hat
  have ec : f_Lines_close_at (LO rs p) [.int 1] = some (LO rs (p + 1), .ret .non) := close_at_ok (k := 1) hat (by simp)
  refine eq_ok (runI_wq ?_)
  simp [m_end_line, N_end_line, stoP, ew, ec]
theorem name_line_ok {w n : Str} (hR : Rs rs) (hd : rs.drop p = [w, n] :: tl) (hn : lw n) : f_name_line (LO rs p) [] = some (LO rs (p + 1), .ret (.str n)) := by
  obtain ⟨hat, _⟩ := at_of hR hd
  have en : f_Lines_name_at (LO rs p) [.int 1] = some (LO rs p, .ret (.str n)) := name_at_ok (k := 1) hat rfl hn
  have ec : f_Lines_close_at (LO rs p) [.int 2] = some (LO rs (p + 1), .ret .non) := close_at_ok (k := 2) hat (by simp)
  refine eq_ok (runI_wq ?_)
  simp [m_name_line, N_name_line, stoP, en, ec]
theorem scope_row_ok {pre sc pl : List Str} {a : Nat} (hR : Rs rs) (hd : rs.drop p = (pre ++ sc) :: tl) (ha : pre.length = a) (h : scOk sc) (hp : ∀ w, sc = [w] → w ∈ pl) : f_scope_row (LO rs p) [.int a, rw' pl] = some (LO rs (p + 1), .ret (rw' sc)) := by
  obtain ⟨hat, _⟩ := at_of hR hd
  have pw : ∀ u : Str, pHas (.str u) (.tup [.str "in", .str "behind"]) = some (.bl (decide (u ∈ [("in" : Str), "behind"]))) := fun a => pHas_t (ws := [("in" : Str), "behind"])
  have pn : ∀ u : Str, pHasNot (.str u) (rw' pl) = some (.bl (!decide (u ∈ pl))) := fun u => pHasNot_t
  have one : ∀ w : Str, sc = [w] → w ∉ [("in" : Str), "behind"] → f_scope_row (LO rs p) [.int a, rw' pl] = some (LO rs (p + 1), .ret (rw' sc)) := fun w e hn => by
    subst e
    have ew : f_Lines_word_at (LO rs p) [.int a] = some (LO rs p, .ret (.str w)) := word_at_ok hat (by rw [← ha]; simp)
    have ec : f_Lines_close_at (LO rs p) [.int ((a + 1 : Nat) : Int)] = some (LO rs (p + 1), .ret .non) := close_at_ok hat (by simp; omega)
    have ec' : f_Lines_close_at (LO rs p) [.int ((a : Int) + 1)] = some (LO rs (p + 1), .ret .non) := ec
    have hn' : decide (w ∈ [("in" : Str), "behind"]) = false := decide_eq_false hn
    refine eq_ok (runI_wq ?_)
    simp only [m_scope_row, N_scope_row, stoP]
    simp [stoP, ew, pw, hn', pn, hp w rfl, ec', rw', -List.mem_cons]
  have two : ∀ v w : Str, sc = [v, w] → v ∈ [("in" : Str), "behind"] → lw w → f_scope_row (LO rs p) [.int a, rw' pl] = some (LO rs (p + 1), .ret (rw' sc)) := fun v w e hn hw => by
    subst e
    have ew : f_Lines_word_at (LO rs p) [.int a] = some (LO rs p, .ret (.str v)) := word_at_ok hat (by rw [← ha]; simp)
    have en : f_Lines_name_at (LO rs p) [.int ((a + 1 : Nat) : Int)] = some (LO rs p, .ret (.str w)) := name_at_ok hat (by rw [← ha, List.getElem?_append_right (by omega)]; simp) hw
    have en' : f_Lines_name_at (LO rs p) [.int ((a : Int) + 1)] = some (LO rs p, .ret (.str w)) := en
    have ec : f_Lines_close_at (LO rs p) [.int ((a + 2 : Nat) : Int)] = some (LO rs (p + 1), .ret .non) := close_at_ok hat (by simp; omega)
    have ec' : f_Lines_close_at (LO rs p) [.int ((a : Int) + 2)] = some (LO rs (p + 1), .ret .non) := ec
    have hn' : decide (v ∈ [("in" : Str), "behind"]) = true := decide_eq_true hn
    refine eq_ok (runI_wq ?_)
    simp only [m_scope_row, N_scope_row, stoP]
    simp [stoP, ew, pw, hn', en', ec', rw', -List.mem_cons]
  rcases h with rfl | rfl | rfl | ⟨w, hw, rfl | rfl⟩
  · exact one _ rfl (by decide +kernel)
  · exact one _ rfl (by decide +kernel)
  · exact one _ rfl (by decide +kernel)
  · exact two _ w rfl (by simp) hw
  · exact two _ w rfl (by simp) hw
end
end A08
set_option Elab.async false
set_option linter.all false
set_option maxRecDepth 100000
set_option maxHeartbeats 4000000
namespace A08
open PySem L2 Kp
section
variable {rs : List (List Str)} {p : Nat} {tl : List (List Str)}
theorem drop_app {l : List (List Str)} {q k : Nat} {a b : List (List Str)} (h : l.drop q = a ++ b) (hk : a.length = k) : l.drop (q + k) = b := by
  rw [← List.drop_drop, h, ← hk, List.drop_left]
/-- what stands behind the ways: not a way -/
theorem nxt3 (tu : Option Str) : ∃ w0 r0 tl', oT tu ++ [("end" : Str)] :: tl = (w0 :: r0) :: tl' ∧ w0 ≠ ("way" : Str) ∧ w0 ≠ ("first" : Str) ∧ w0 ≠ ("scope" : Str) := by
  cases tu with
  | none => exact ⟨_, _, _, rfl, by simp, by simp, by simp⟩
  | some u => exact ⟨_, _, _, rfl, by simp, by simp, by simp⟩
theorem nxt2 (sc : List Str) (tu : Option Str) : ∃ w0 r0 tl', scL sc ++ (oT tu ++ [("end" : Str)] :: tl) = (w0 :: r0) :: tl' ∧ w0 ≠ ("way" : Str) ∧ w0 ≠ ("first" : Str) := by
  unfold scL
  split
  · obtain ⟨w0, r0, tl', e, h1, h2, _⟩ := nxt3 (tl := tl) tu
    exact ⟨w0, r0, tl', e, h1, h2⟩
  · exact ⟨_, _, _, rfl, by simp, by simp⟩
theorem nxt1 (fi : Option (List Str)) (sc : List Str) (tu : Option Str) : ∃ w0 r0 tl', oL "first" fi ++ (scL sc ++ (oT tu ++ [("end" : Str)] :: tl)) = (w0 :: r0) :: tl' ∧ w0 ≠ ("way" : Str) := by
  cases fi with
  | none =>
    obtain ⟨w0, r0, tl', e, h1, _⟩ := nxt2 (tl := tl) sc tu
    exact ⟨w0, r0, tl', e, h1⟩
  | some w => exact ⟨_, _, _, rfl, by simp⟩
theorem scope_row_tm {sc : List Str} (hR : Rs rs) (hd : rs.drop p = (("scope" : Str) :: sc) :: tl) (h : scOk sc) (hw : sc ≠ [("work" : Str)]) : f_scope_row (LO rs p) [.int 1, .tup [.str "plain", .str "quoted"]] = some (LO rs (p + 1), .ret (rw' sc)) :=
  scope_row_ok (pre := [("scope" : Str)]) (a := 1) (pl := [("plain" : Str), "quoted"]) hR hd rfl h fun w e => by
    subst e
    rcases h with h | h | h | ⟨u, _, h | h⟩
    · exact absurd h hw
    · simp at h; simp [h]
    · simp at h; simp [h]
    · simp at h
    · simp at h
theorem term_row_ok {t : Tm} (hR : Rs rs) (h : t.ok) (hd : rs.drop p = tmW t ++ [("end" : Str)] :: tl) : f_term_row (LO rs p) [] = some (LO rs (p + (tmW t).length), .ret t.pv) := by
  have hd0 : rs.drop p = (("term" : Str) :: t.n :: t.p) :: (t.ws.map (("way" : Str) :: ·) ++ (oL "first" t.fi ++ (scL t.sc ++ (oT t.tu ++ [("end" : Str)] :: tl)))) := by
    rw [hd]
    unfold tmW
    simp
  obtain ⟨hat, hd1⟩ := at_of hR hd0
  have ew := want_word_ok hat
  have en : f_Lines_name_at (LO rs p) [.int 1] = some (LO rs p, .ret (.str t.n)) := name_at_ok (k := 1) hat rfl h.n
  have hp1 : 1 ≤ t.p.length := by
    rcases h.p with ⟨a, b, e, _⟩ | ⟨h1, _⟩
    · rw [e]; simp
    · exact h1
  have ei : f_items_from (LO rs p) [.int 2, .int 1, .int 3, .bl false] = some (LO rs (p + 1), .ret (rw' t.p)) := items_ok (pre := [("term" : Str), t.n]) (a := 2) (least := 1) (most := 3) hR hd0 rfl (by decide) hp1 (pat_len h.p) (by decide) (okIt_pat h.p)
  obtain ⟨w0, r0, tl', e0, hne⟩ := nxt1 (tl := tl) t.fi t.sc t.tu
  have ewr : f_way_rows (LO rs (p + 1)) [] = some (LO rs (p + 1 + t.ws.length), .ret (.tup (t.ws.map rw'))) := way_rows_ok hR (by rw [hd1, e0]) h.l1 h.l3 (fun w hw => way_free (h.ws w hw)) hne
  have hd2 : rs.drop (p + 1 + t.ws.length) = oL "first" t.fi ++ (scL t.sc ++ (oT t.tu ++ [("end" : Str)] :: tl)) := drop_app hd1 (by simp)
  have elen : (tmW t).length = 1 + (t.ws.length + ((oL "first" t.fi).length + ((scL t.sc).length + (oT t.tu).length))) := by
    unfold tmW
    simp
    omega
  refine eq_ok (runI_wq ?_)
  rw [elen]
  simp [m_term_row, N_term_row, stoP, ew, en, ei, ewr]
  clear e0 hne
  have hpos : p + (1 + (t.ws.length + ((oL "first" t.fi).length + ((scL t.sc).length + (oT t.tu).length)))) = (p + 1 + t.ws.length) + ((oL "first" t.fi).length + ((scL t.sc).length + (oT t.tu).length)) := by omega
  rw [hpos]
  generalize p + 1 + t.ws.length = q at hd2 ⊢
  have tail3 : ∀ (q : Nat) (sv : PV) (fv : PV), rs.drop q = oT t.tu ++ [("end" : Str)] :: tl → sv = rw' t.sc → fv = oR t.fi →
      wq (mSeq (mSet 6 (mK PV.non)) (mSeq (mIf (mTest (mBin pEq (mMethI 0 4 "first_word" f_Lines_first_word []) (mK (.str "turns")))) (mSeq (mSet 6 (mMethI 0 4 "name_at" f_Lines_name_at [mK (.int 1)])) (mDrop (mMethI 0 4 "close_at" f_Lines_close_at [mK (.int 2)]))) (mNx)) (mRet (mTup [mVar 1, mVar 2, mVar 3, mVar 5, mVar 4, mVar 6]))))
        [some (.i (LO rs q)), some (.p (.str t.n)), some (.p (rw' t.p)), some (.p (.tup (t.ws.map rw'))), some (.p fv), some (.p sv), none] (rtI fun x' y' => x' = LO rs (q + (oT t.tu).length) ∧ y' = t.pv) := by
    intro q sv fv hq es ef
    subst es
    subst ef
    cases et : t.tu with
    | none =>
      rw [et] at hq
      obtain ⟨hat, _⟩ := at_of hR (show rs.drop q = [("end" : Str)] :: tl from hq)
      have ef := first_word_ok hat
      simp [ef, oT, Tm.pv, et, oS]
    | some u =>
      rw [et] at hq
      obtain ⟨hat, _⟩ := at_of hR (show rs.drop q = [("turns" : Str), u] :: ([("end" : Str)] :: tl) from hq)
      have ef := first_word_ok hat
      have en : f_Lines_name_at (LO rs q) [.int 1] = some (LO rs q, .ret (.str u)) := name_at_ok (k := 1) hat rfl (h.tu u et)
      have ec : f_Lines_close_at (LO rs q) [.int 2] = some (LO rs (q + 1), .ret .non) := close_at_ok (k := 2) hat (by simp)
      simp [ef, en, ec, oT, Tm.pv, et, oS]
  have tail2 : ∀ (q : Nat) (fv : PV), rs.drop q = scL t.sc ++ (oT t.tu ++ [("end" : Str)] :: tl) → fv = oR t.fi →
      wq (mSeq (mSet 5 (mTup [mK (.str "work")])) (mSeq (mIf (mTest (mBin pEq (mMethI 0 4 "first_word" f_Lines_first_word []) (mK (.str "scope")))) (mSet 5 (mCallI 0 f_scope_row [mK (.int 1), mTup [mK (.str "plain"), mK (.str "quoted")]])) (mNx)) (mSeq (mSet 6 (mK PV.non)) (mSeq (mIf (mTest (mBin pEq (mMethI 0 4 "first_word" f_Lines_first_word []) (mK (.str "turns")))) (mSeq (mSet 6 (mMethI 0 4 "name_at" f_Lines_name_at [mK (.int 1)])) (mDrop (mMethI 0 4 "close_at" f_Lines_close_at [mK (.int 2)]))) (mNx)) (mRet (mTup [mVar 1, mVar 2, mVar 3, mVar 5, mVar 4, mVar 6]))))))
        [some (.i (LO rs q)), some (.p (.str t.n)), some (.p (rw' t.p)), some (.p (.tup (t.ws.map rw'))), some (.p fv), none, none] (rtI fun x' y' => x' = LO rs (q + ((scL t.sc).length + (oT t.tu).length)) ∧ y' = t.pv) := by
    intro q fv hq ef
    by_cases hs : t.sc = [("work" : Str)]
    · have es : scL t.sc = [] := by unfold scL; rw [if_pos hs]
      rw [es, List.nil_append] at hq
      obtain ⟨w0, r0, tl', e0, _, _, hne⟩ := nxt3 (tl := tl) t.tu
      obtain ⟨hat, _⟩ := at_of hR (show rs.drop q = (w0 :: r0) :: tl' from hq.trans e0)
      have efw := first_word_ok hat
      have hne' : ¬ w0 = Str.ofString "scope" := hne
      have := tail3 q (rw' t.sc) fv hq rfl ef
      rw [hs] at this
      have e5 : rw' [("work" : Str)] = .tup [.str "work"] := rfl
      rw [e5] at this
      rw [es]
      simp only [e_mSeq, e_mIf, e_mSet, e_mK, e_mTest, e_mBin] at this ⊢
      simp [efw, hne'] at this ⊢
      exact this
    · have es : scL t.sc = [("scope" : Str) :: t.sc] := by unfold scL; rw [if_neg hs]
      rw [es] at hq
      have hq1 : rs.drop q = (("scope" : Str) :: t.sc) :: (oT t.tu ++ [("end" : Str)] :: tl) := hq
      obtain ⟨hat, hq2⟩ := at_of hR hq1
      have efw := first_word_ok hat
      have esr := scope_row_tm hR hq1 h.sc hs
      have := tail3 (q + 1) (rw' t.sc) fv hq2 rfl ef
      rw [es]
      have ep : q + (([("scope" : Str) :: t.sc] : List (List Str)).length + (oT t.tu).length) = q + 1 + (oT t.tu).length := by simp; omega
      rw [ep]
      simp [efw, esr] at this ⊢
      exact this
  cases ef : t.fi with
  | none =>
    rw [ef] at hd2
    have hq : rs.drop q = scL t.sc ++ (oT t.tu ++ [("end" : Str)] :: tl) := hd2
    obtain ⟨w0, r0, tl', e0, _, hne⟩ := nxt2 (tl := tl) t.sc t.tu
    obtain ⟨hat, _⟩ := at_of hR (show rs.drop q = (w0 :: r0) :: tl' from hq.trans e0)
    have efw := first_word_ok hat
    have hne' : ¬ w0 = Str.ofString "first" := hne
    have := tail2 q .non hq (by rw [ef]; rfl)
    have ep : q + ((oL "first" none).length + ((scL t.sc).length + (oT t.tu).length)) = q + ((scL t.sc).length + (oT t.tu).length) := by simp [oL]
    rw [ep]
    simp [efw, hne'] at this ⊢
    exact this
  | some w =>
    rw [ef] at hd2
    have hq1 : rs.drop q = (("first" : Str) :: w) :: (scL t.sc ++ (oT t.tu ++ [("end" : Str)] :: tl)) := hd2
    obtain ⟨hat, hq2⟩ := at_of hR hq1
    have efw := first_word_ok hat
    have eit := way_items hR hq1 (way_free (h.fi w ef))
    have := tail2 (q + 1) (rw' w) hq2 (by rw [ef]; rfl)
    have ep : q + ((oL "first" (some w)).length + ((scL t.sc).length + (oT t.tu).length)) = q + 1 + ((scL t.sc).length + (oT t.tu).length) := by simp [oL]; omega
    rw [ep]
    simp [efw, eit] at this ⊢
    exact this
end
end A08
set_option Elab.async false
set_option linter.all false
set_option maxRecDepth 100000
set_option maxHeartbeats 4000000
namespace A08
open PySem L2 Kp
theorem made_term_ok {t : Tm} (h : t.ok) : f_made_term [t.pv] = some (.ret (tObj t)) := by
  refine runP_eq ?_
  simp [m_made_term, N_made_term, stoP, Tm.pv]
  refine ⟨_, rfl, ?_⟩
  simp [term_init h]
theorem made_change_ok {c : Chg} (h : c.ok) : f_made_change [c.pv] = some (.ret c.md) := by
  refine runP_eq ?_
  cases c with
  | add t => simp [m_made_change, N_made_change, stoP, Chg.pv, Chg.md, made_term_ok h]
  | _ => simp [m_made_change, N_made_change, stoP, Chg.pv, Chg.md]
section
variable {rs : List (List Str)} {p : Nat} {tl : List (List Str)}
theorem added_row_ok {t : Tm} (hR : Rs rs) (h : t.ok) (hd : rs.drop p = [("add" : Str)] :: (tmW t ++ [("end" : Str)] :: tl)) : f_added_row (LO rs p) [] = some (LO rs (p + 1 + (tmW t).length + 1), .ret t.pv) := by
  obtain ⟨hat, hd1⟩ := at_of hR hd
  have ec : f_Lines_close_at (LO rs p) [.int 1] = some (LO rs (p + 1), .ret .non) := close_at_ok (k := 1) hat (by simp)
  have et := term_row_ok hR h hd1
  have ee := end_line_ok hR (drop_app hd1 rfl)
  refine eq_ok (runI_wq ?_)
  simp [m_added_row, N_added_row, stoP, ec, et, ee]
theorem ways_of_entry_ok {ws : List (List Str)} (hR : Rs rs) (hd : rs.drop p = ws.map (("way" : Str) :: ·) ++ [("end" : Str)] :: tl) (h1 : 1 ≤ ws.length) (h3 : ws.length ≤ 3) (hw : ∀ w ∈ ws, freeOk w) :
    f_ways_of_entry (LO rs p) [] = some (LO rs (p + ws.length + 1), .ret (.tup (ws.map rw'))) := by
  have e1 := way_rows_ok hR hd h1 h3 hw (by simp)
  have ee := end_line_ok hR (drop_app hd (by simp : _ = ws.length))
  refine eq_ok (runI_wq ?_)
  simp [m_ways_of_entry, N_ways_of_entry, stoP, e1, ee]
theorem first_of_entry_ok {w : Option (List Str)} (hR : Rs rs) (hd : rs.drop p = oL "way" w ++ [("end" : Str)] :: tl) (hw : ∀ u, w = some u → freeOk u) :
    f_first_of_entry (LO rs p) [] = some (LO rs (p + (oL "way" w).length + 1), .ret (oR w)) := by
  refine eq_ok (runI_wq ?_)
  cases w with
  | none =>
    have hd' : rs.drop p = [("end" : Str)] :: tl := hd
    obtain ⟨hat, _⟩ := at_of hR hd'
    have ef := first_word_ok hat
    have ee := end_line_ok hR hd'
    simp [m_first_of_entry, N_first_of_entry, stoP, ef, ee, oL, oR]
  | some u =>
    have hd' : rs.drop p = (("way" : Str) :: u) :: ([("end" : Str)] :: tl) := hd
    obtain ⟨hat, hd1⟩ := at_of hR hd'
    have ef := first_word_ok hat
    have ei := way_items hR hd' (hw u rfl)
    have ee := end_line_ok hR hd1
    simp [m_first_of_entry, N_first_of_entry, stoP, ef, ei, ee, oL, oR]
theorem entry_row_ok {c : Chg} (hR : Rs rs) (h : c.ok) (hd : rs.drop p = c.W ++ tl) : f_entry_row (LO rs p) [] = some (LO rs (p + c.W.length), .ret c.pv) := by
  refine eq_ok (runI_wq ?_)
  cases c with
  | add t =>
    have hd' : rs.drop p = [("add" : Str)] :: (tmW t ++ [("end" : Str)] :: tl) := by rw [hd]; simp [Chg.W]
    obtain ⟨hat, _⟩ := at_of hR hd'
    have ef := first_word_ok hat
    have ea := added_row_ok hR h hd'
    have ep : p + (Chg.add t).W.length = p + 1 + (tmW t).length + 1 := by simp [Chg.W]; omega
    rw [ep]
    simp [m_entry_row, N_entry_row, stoP, ef, ea, Chg.pv]
  | drop n =>
    have hd' : rs.drop p = [("drop" : Str), n] :: tl := hd
    obtain ⟨hat, _⟩ := at_of hR hd'
    have ef := first_word_ok hat
    have ea := name_line_ok hR hd' h
    simp [m_entry_row, N_entry_row, stoP, ef, ea, Chg.pv, Chg.W]
  | rise n =>
    have hd' : rs.drop p = [("rise" : Str), n] :: tl := hd
    obtain ⟨hat, _⟩ := at_of hR hd'
    have ef := first_word_ok hat
    have ea := name_line_ok hR hd' h
    simp [m_entry_row, N_entry_row, stoP, ef, ea, Chg.pv, Chg.W]
  | ways n ws =>
    have hd' : rs.drop p = [("ways" : Str), n] :: (ws.map (("way" : Str) :: ·) ++ [("end" : Str)] :: tl) := by rw [hd]; simp [Chg.W]
    obtain ⟨hat, hd1⟩ := at_of hR hd'
    have ef := first_word_ok hat
    have ea := name_line_ok hR hd' h.1
    have eb := ways_of_entry_ok hR hd1 h.2.1 h.2.2.1 h.2.2.2
    have ep : p + (Chg.ways n ws).W.length = p + 1 + ws.length + 1 := by simp [Chg.W]; omega
    rw [ep]
    simp [m_entry_row, N_entry_row, stoP, ef, ea, eb, Chg.pv]
  | first n w =>
    have hd' : rs.drop p = [("first" : Str), n] :: (oL "way" w ++ [("end" : Str)] :: tl) := by rw [hd]; simp [Chg.W]
    obtain ⟨hat, hd1⟩ := at_of hR hd'
    have ef := first_word_ok hat
    have ea := name_line_ok hR hd' h.1
    have eb := first_of_entry_ok hR hd1 h.2
    have ep : p + (Chg.first n w).W.length = p + 1 + (oL "way" w).length + 1 := by simp [Chg.W]; omega
    rw [ep]
    simp [m_entry_row, N_entry_row, stoP, ef, ea, eb, Chg.pv]
  | scope n sc =>
    have hd' : rs.drop p = (("scope" : Str) :: n :: sc) :: tl := hd
    obtain ⟨hat, _⟩ := at_of hR hd'
    have ef := first_word_ok hat
    have en : f_Lines_name_at (LO rs p) [.int 1] = some (LO rs p, .ret (.str n)) := name_at_ok (k := 1) hat rfl h.1
    have es : f_scope_row (LO rs p) [.int 2, .tup [.str "work", .str "plain", .str "quoted"]] = some (LO rs (p + 1), .ret (rw' sc)) :=
      scope_row_ok (pre := [("scope" : Str), n]) (a := 2) (pl := [("work" : Str), "plain", "quoted"]) hR hd' rfl h.2 fun w e => by
        subst e
        rcases h.2 with h | h | h | ⟨u, _, h | h⟩ <;> simp at h <;> simp [h]
    simp [m_entry_row, N_entry_row, stoP, ef, en, es, Chg.pv, Chg.W]
  | say n w =>
    have hd' : rs.drop p = [("say" : Str), n, w] :: tl := hd
    obtain ⟨hat, _⟩ := at_of hR hd'
    have ef := first_word_ok hat
    have e1 : f_Lines_name_at (LO rs p) [.int 1] = some (LO rs p, .ret (.str n)) := name_at_ok (k := 1) hat rfl h.1
    have e2 : f_Lines_name_at (LO rs p) [.int 2] = some (LO rs p, .ret (.str w)) := name_at_ok (k := 2) hat rfl h.2
    have ec : f_Lines_close_at (LO rs p) [.int 3] = some (LO rs (p + 1), .ret .non) := close_at_ok (k := 3) hat (by simp)
    simp [m_entry_row, N_entry_row, stoP, ef, e1, e2, ec, Chg.pv, Chg.W]
end
theorem W_ne {c : Chg} : ∃ w r tl, c.W = (w :: r) :: tl := by
  cases c <;> exact ⟨_, _, _, rfl⟩
theorem wds_tm {t : Tm} (h : t.ok) : ∀ r ∈ tmW t, wds r := by
  have hpl := pat_len h.p
  have hsl := sc_len h.sc
  intro r hr
  unfold tmW at hr
  rcases List.mem_cons.mp hr with rfl | hr
  · exact wds_cons wd_term (by simp; omega) fun s hs => by
      rcases List.mem_cons.mp hs with rfl | hs
      · exact wd_lw h.n
      · exact wd_pat h.p s hs
  rcases List.mem_append.mp hr with hr | hr
  · obtain ⟨w, hw, rfl⟩ := List.mem_map.mp hr
    exact wds_way wd_way (way_free (h.ws w hw))
  rcases List.mem_append.mp hr with hr | hr
  · cases ef : t.fi with
    | none => rw [ef] at hr; cases hr
    | some w =>
      rw [ef] at hr
      rw [List.mem_singleton.mp hr]
      exact wds_way wd_first (way_free (h.fi w ef))
  rcases List.mem_append.mp hr with hr | hr
  · unfold scL at hr
    split at hr
    · cases hr
    · rw [List.mem_singleton.mp hr]
      exact wds_cons wd_scope (by omega) (wd_sc h.sc)
  · cases et : t.tu with
    | none => rw [et] at hr; cases hr
    | some u =>
      rw [et] at hr
      rw [List.mem_singleton.mp hr]
      exact wds2 wd_turns (wd_lw (h.tu u et))
theorem wds_one {w : Str} (h : wd w) : wds [w] := wds_cons h (by simp) (by simp)
theorem wds_W {c : Chg} (h : c.ok) : ∀ r ∈ c.W, wds r := by
  intro r hr
  cases c with
  | add t =>
    rcases List.mem_cons.mp hr with rfl | hr
    · exact wds_one wd_add
    rcases List.mem_append.mp hr with hr | hr
    · exact wds_tm h r hr
    · rw [List.mem_singleton.mp hr]
      exact wds_one wd_end
  | drop n =>
    rw [List.mem_singleton.mp hr]
    exact wds2 wd_drop (wd_lw h)
  | rise n =>
    rw [List.mem_singleton.mp hr]
    exact wds2 wd_rise (wd_lw h)
  | ways n ws =>
    rcases List.mem_cons.mp hr with rfl | hr
    · exact wds2 wd_ways (wd_lw h.1)
    rcases List.mem_append.mp hr with hr | hr
    · obtain ⟨w, hw, rfl⟩ := List.mem_map.mp hr
      exact wds_way wd_way (h.2.2.2 w hw)
    · rw [List.mem_singleton.mp hr]
      exact wds_one wd_end
  | first n w =>
    rcases List.mem_cons.mp hr with rfl | hr
    · exact wds2 wd_first (wd_lw h.1)
    rcases List.mem_append.mp hr with hr | hr
    · cases w with
      | none => cases hr
      | some u =>
        rw [List.mem_singleton.mp hr]
        exact wds_way wd_way (h.2 u rfl)
    · rw [List.mem_singleton.mp hr]
      exact wds_one wd_end
  | scope n sc =>
    rw [List.mem_singleton.mp hr]
    exact wds_scope h.1 h.2
  | say n w =>
    rw [List.mem_singleton.mp hr]
    exact wds3 wd_say (wd_lw h.1) (wd_lw h.2)
theorem rs_of {cs : List Chg} (h : ∀ c ∈ cs, c.ok) (hl : cs.length ≤ 90) : Rs (LW cs) := by
  refine ⟨fun r hr => ?_, by have := LW_len h; omega⟩
  obtain ⟨c, hc, hr⟩ := List.mem_flatMap.mp hr
  exact wds_W (h c hc) r hr
theorem read_log_ok {cs : List Chg} {x : PV} (h : ∀ c ∈ cs, c.ok) (hl : cs.length ≤ 90) (hx : x = .lst ((LW cs).map lnP) ∨ x = .tup ((LW cs).map lnP)) : f_read_log [x] = some (.ret (.tup (cs.map Chg.md))) := by
  have hR := rs_of h hl
  have e0 : f_Lines___init__ (.obj 4 []) [x] = some (LO (LW cs) 0, .ret .non) := by
    rcases hx with rfl | rfl
    · exact lines_init_l hR.l
    · exact lines_init_t hR.l
  refine runP_eq ?_
  simp [m_read_log, N_read_log, stoP, e0]
  refine wq_while (fun n' S => ∃ (dn rest : List Chg), cs = dn ++ rest ∧ rest.length = n' ∧ S = [some (.p x), some (.o (LO (LW cs) (LW dn).length)), some (.o (.lst (dn.map Chg.pv))), none]) ?_ ?_ cs.length 200 _ ⟨[], cs, rfl, rfl, rfl⟩ (by omega)
  · rintro S ⟨dn, rest, ed, hl2, rfl⟩
    have : rest = [] := List.eq_nil_of_length_eq_zero hl2
    subst this
    rw [List.append_nil] at ed
    subst ed
    have ef := first_word_end (rs := LW cs) (p := (LW cs).length) (Nat.le_refl _)
    simp [ef, szL]
    refine ⟨by omega, lcE_of (lcGo_mapf cs Chg.pv (fun _ => true) Chg.md fun c hc => ⟨_, by simp; rfl, by simp [made_change_ok (h c hc)]⟩) ?_⟩
    simp
  · rintro n' S ⟨dn, rest, ed, hl2, rfl⟩
    cases rest with
    | nil => cases hl2
    | cons c rest =>
      have hc := h c (by rw [ed]; simp)
      have hd : (LW cs).drop (LW dn).length = c.W ++ LW rest := by
        rw [ed]
        simp [LW]
      obtain ⟨w, r, tl, ew⟩ := W_ne (c := c)
      obtain ⟨hat, _⟩ := at_of hR (show (LW cs).drop (LW dn).length = (w :: r) :: (tl ++ LW rest) by rw [hd, ew]; rfl)
      have ef := first_word_ok hat
      have ee := entry_row_ok hR hc hd
      have hdl : dn.length ≤ 90 := by
        have := congrArg List.length ed
        simp at this
        omega
      simp [ef, ee, szL]
      exact ⟨by omega, dn ++ [c], rest, by rw [ed]; simp, by simpa using hl2, by simp [LW], by simp⟩
end A08
set_option Elab.async false
set_option linter.all false
set_option maxRecDepth 100000
set_option maxHeartbeats 4000000
namespace Kp
open PySem L2
theorem pEq_self {x : PV} (h : PV.isD x = true) (hd : (PV.dat x).depth ≤ 60) : pEq x x = some (.bl true) := by
  unfold pEq pEqB
  have e : (PV.isD x && PV.isD x && decide (min (PV.dat x).depth (PV.dat x).depth ≤ 60)) = true := by
    rw [h, decide_eq_true (by omega)]
    rfl
  rw [if_pos e, PySem.SeqAt.eqv_refl_plain _ (dat_plain _)]
  rfl
end Kp
namespace A08
open PySem L2 Kp
/-! ### what is told -/
theorem told_term_ok {t : Tm} : f__law_told_term [tObj t] = some (.ret t.pv) := by
  refine runP_eq ?_
  simp [m__law_told_term, N__law_told_term, stoP, tObj, Tm.pv]
theorem told_change_ok {c : Chg} : f__law_told_change [c.md] = some (.ret c.pv) := by
  refine runP_eq ?_
  cases c with
  | add t =>
    have e := told_term_ok (t := t)
    have ea : ansO (ocOf 3) (tObj t) = some true := by unfold tObj; simp
    simp [m__law_told_change, N__law_told_change, stoP, Chg.md, Chg.pv, e, ea]
  | _ => simp [m__law_told_change, N__law_told_change, stoP, Chg.md, Chg.pv]
theorem told_changes_ok {cs : List Chg} (hl : cs.length ≤ 1000) : f__law_told_changes [.tup (cs.map Chg.md)] = some (.ret (.tup (cs.map Chg.pv))) := by
  refine runP_eq ?_
  simp [m__law_told_changes, N__law_told_changes, stoP, szL]
  refine ⟨by omega, lcE_of (lcGo_mapf cs Chg.md (fun _ => true) Chg.pv fun c hc => ⟨_, by simp; rfl, by simp [told_change_ok]⟩) ?_⟩
  simp
/-! ### the same -/
def gsv : Nat → PV → Bool
  | _, .non => true
  | _, .str _ => true
  | d + 1, .tup xs => decide (xs.length ≤ 1000) && xs.all (gsv d)
  | _, _ => false
theorem gsv_seq {d : Nat} {xs : List PV} (h : (decide (xs.length ≤ 1000) && xs.all (gsv d)) = true) : xs.length ≤ 1000 ∧ ∀ x ∈ xs, gsv d x = true := by
  rw [Bool.and_eq_true] at h
  exact ⟨of_decide_eq_true h.1, List.all_eq_true.mp h.2⟩
theorem gsv_tup {d : Nat} {xs : List PV} (hl : xs.length ≤ 1000) (h : ∀ x ∈ xs, gsv d x = true) : gsv (d + 1) (.tup xs) = true := by
  show (decide (xs.length ≤ 1000) && xs.all (gsv d)) = true
  rw [decide_eq_true hl, Bool.true_and]
  exact List.all_eq_true.mpr h
theorem gsv_s {d : Nat} {s : Str} : gsv d (.str s) = true := by cases d <;> rfl
theorem gsv_n {d : Nat} : gsv d .non = true := by cases d <;> rfl
theorem gsv_strs {d : Nat} {ws : List Str} (h : ws.length ≤ 1000) : gsv (d + 1) (.tup (ws.map .str)) = true := by
  refine gsv_tup (by simpa using h) fun x hx => ?_
  obtain ⟨w, _, rfl⟩ := map_mem_pv hx
  exact gsv_s
theorem gsv_lines {d : Nat} {ws : List (List Str)} (h : ws.length ≤ 1000) : gsv (d + 1) (.tup (ws.map lnP)) = true := by
  refine gsv_tup (by simpa using h) fun x hx => ?_
  obtain ⟨w, _, rfl⟩ := map_mem_pv hx
  exact gsv_s
theorem gsv_rws {d : Nat} {ws : List (List Str)} (h : ws.length ≤ 1000) (h2 : ∀ w ∈ ws, w.length ≤ 1000) : gsv (d + 2) (.tup (ws.map rw')) = true := by
  refine gsv_tup (by simpa using h) fun x hx => ?_
  obtain ⟨w, hw, rfl⟩ := map_mem_pv hx
  exact gsv_strs (h2 w hw)
theorem gsv_oR {d : Nat} {o : Option (List Str)} (h : ∀ w, o = some w → w.length ≤ 6) : gsv (d + 1) (oR o) = true := by
  cases o with
  | none => rfl
  | some w => exact gsv_strs (by have := h w rfl; omega)
theorem gsv_pv {d : Nat} {c : Chg} (h : c.ok) : gsv (d + 4) c.pv = true := by
  have two : ∀ {a b : PV} {d : Nat}, gsv d a = true → gsv d b = true → gsv (d + 1) (.tup [a, b]) = true := fun ha hb => gsv_tup (by simp) fun x hx => by
    simp at hx
    rcases hx with rfl | rfl
    · exact ha
    · exact hb
  have three : ∀ {a b c : PV} {d : Nat}, gsv d a = true → gsv d b = true → gsv d c = true → gsv (d + 1) (.tup [a, b, c]) = true := fun ha hb hc => gsv_tup (by simp) fun x hx => by
    simp at hx
    rcases hx with rfl | rfl | rfl
    · exact ha
    · exact hb
    · exact hc
  cases c with
  | add t =>
    refine two gsv_s (gsv_tup (by simp) fun x hx => ?_)
    simp at hx
    rcases hx with rfl | rfl | rfl | rfl | rfl | rfl
    · exact gsv_s
    · exact gsv_strs (by have := pat_len h.p; omega)
    · exact gsv_rws (by have := h.l3; omega) fun w hw => by have := (h.ws w hw).1; omega
    · exact gsv_strs (by have := sc_len h.sc; omega)
    · exact gsv_oR fun w hw => (h.fi w hw).1
    · cases t.tu
      · exact gsv_n
      · exact gsv_s
  | drop n => exact two gsv_s gsv_s
  | rise n => exact two gsv_s gsv_s
  | ways n ws => exact three gsv_s gsv_s (gsv_rws (by have := h.2.2.1; omega) fun w hw => by have := (h.2.2.2 w hw).1; omega)
  | first n w => exact three gsv_s gsv_s (gsv_oR fun w hw => (h.2 w hw).1)
  | scope n sc => exact three gsv_s gsv_s (gsv_strs (by have := sc_len h.2; omega))
  | say n w => exact three gsv_s gsv_s gsv_s
theorem same_d : ∀ (d : Nat) (x : PV), gsv d x = true → fd__law_same (d + 1) [x, x] = some (.ret (.bl true)) := by
  intro d
  induction d with
  | zero =>
    intro x h
    refine runP_eq ?_
    cases x <;> first | (cases h; done) | simp [m__law_same, N__law_same, stoP]
  | succ d ih =>
    intro x h
    refine runP_eq ?_
    cases x with
    | tup xs =>
      obtain ⟨hl, hx⟩ := gsv_seq h
      simp [m__law_same, N__law_same, stoP, szL, rangeP_len]
      refine ⟨inR_of (by omega) (by omega), by omega, ?_⟩
      have := lcGo_mapf (vs := [2]) (g := gN 2) (mt := mYes) (me := mCall (fd__law_same (d + 1)) [mIxV 0 (mVar 2), mIxV 1 (mVar 2)]) (S := [some (.p (.tup xs)), some (.p (.tup xs)), none]) (List.range xs.length) (fun i : Nat => PV.int (0 + (i : Int))) (fun _ => true) (fun _ => PV.bl true) fun i hi => by
        have hi' := List.mem_range.mp hi
        have q : xs[i]? = some xs[i] := List.getElem?_eq_getElem hi'
        refine ⟨_, by simp; rfl, ?_⟩
        simp [atN, q, ih xs[i] (hx _ (List.getElem_mem hi'))]
      refine lcE_of this ?_
      have ea : pAll [.lst (((List.range xs.length).filter fun _ => true).map fun _ => PV.bl true)] = some (.bl true) := pAll_tt fun z hz => by
        obtain ⟨_, _, rfl⟩ := map_mem_pv hz
        rfl
      simp only [filter_tt] at ea
      simp [ea]
    | _ => first | (cases h; done) | simp [m__law_same, N__law_same, stoP]
theorem same_ok {x : PV} (h : gsv 7 x = true) : f__law_same [x, x] = some (.ret (.bl true)) := same_d 7 x h
theorem same_pvs {cs : List Chg} (h : ∀ c ∈ cs, c.ok) (hl : cs.length ≤ 1000) : f__law_same [.tup (cs.map Chg.pv), .tup (cs.map Chg.pv)] = some (.ret (.bl true)) := same_ok (gsv_tup (by simpa using hl) fun x hx => by
  obtain ⟨c, hc, rfl⟩ := map_mem_pv hx
  exact gsv_pv (d := 2) (h c hc))
theorem same_lines {ws : List (List Str)} (h : ws.length ≤ 1000) : f__law_same [.tup (ws.map lnP), .tup (ws.map lnP)] = some (.ret (.bl true)) := same_ok (gsv_lines h)
theorem pNe_lines (a : List (List Str)) : pNe (.tup (a.map lnP)) (.tup (a.map lnP)) = some (.bl false) := by
  have e : a.map lnP = (a.map Ln).map .str := by rw [List.map_map]; rfl
  rw [e, pNe_strs]
  simp
/-! ### equal terms -/
theorem gsv_isD : ∀ (d : Nat) (x : PV), gsv d x = true → PV.isD x = true ∧ (PV.dat x).depth ≤ d
  | 0, x, h => by
    cases x with
    | non => exact ⟨rfl, by simp [PV.dat, PyData.depth]⟩
    | str s => exact ⟨rfl, by simp [PV.dat, PyData.depth]⟩
    | _ => cases h
  | d + 1, x, h => by
    cases x with
    | non => exact ⟨rfl, by simp [PV.dat, PyData.depth]⟩
    | str s => exact ⟨rfl, by simp [PV.dat, PyData.depth]⟩
    | tup xs =>
      obtain ⟨hl, hx⟩ := gsv_seq h
      have go : ∀ ys : List PV, (∀ y ∈ ys, y ∈ xs) → PV.isDL ys = true ∧ PyData.depthAll (PV.datL ys) ≤ d := by
        intro ys
        induction ys with
        | nil => exact fun _ => ⟨rfl, by simp [PV.datL, PyData.depthAll]⟩
        | cons y ys ih =>
          intro hm
          obtain ⟨a1, a2⟩ := ih fun z hz => hm z (List.mem_cons_of_mem _ hz)
          obtain ⟨b1, b2⟩ := gsv_isD d y (hx y (hm y List.mem_cons_self))
          refine ⟨?_, ?_⟩
          · show (PV.isD y && PV.isDL ys) = true
            rw [a1, b1]
            rfl
          · show PyData.depthAll (PV.dat y :: PV.datL ys) ≤ d
            simp only [PyData.depthAll]
            omega
      obtain ⟨a1, a2⟩ := go xs fun y hy => hy
      refine ⟨a1, ?_⟩
      show (PyData.tuple (PV.datL xs)).depth ≤ d + 1
      simp only [PyData.depth]
      omega
    | _ => cases h
def kO (x : PV) : PV := match x with
  | .non => .tup []
  | x => .tup [x]
def kT (t : Tm) : PV := .tup [.str t.n, rw' t.p, .tup (t.ws.map rw'), rw' t.sc, kO (oR t.fi), kO (oS t.tu)]
theorem keyed_ok {t : Tm} : f_keyed_term [tObj t] = some (.ret (kT t)) := by
  refine runP_eq ?_
  cases ef : t.fi <;> cases et : t.tu <;> simp [m_keyed_term, N_keyed_term, stoP, tObj, kT, kO, oR, oS, ef, et, rw']
theorem gsv_kT {t : Tm} (h : t.ok) : gsv 7 (kT t) = true := by
  refine gsv_tup (by simp) fun x hx => ?_
  simp at hx
  rcases hx with rfl | rfl | rfl | rfl | rfl | rfl
  · exact gsv_s
  · exact gsv_strs (by have := pat_len h.p; omega)
  · exact gsv_rws (by have := h.l3; omega) fun w hw => by have := (h.ws w hw).1; omega
  · exact gsv_strs (by have := sc_len h.sc; omega)
  · cases ef : t.fi with
    | none => rfl
    | some w =>
      refine gsv_tup (by simp) fun x hx => ?_
      rw [List.mem_singleton.mp hx]
      exact gsv_strs (by have := (h.fi w ef).1; omega)
  · cases et : t.tu with
    | none => rfl
    | some w =>
      refine gsv_tup (by simp) fun x hx => ?_
      rw [List.mem_singleton.mp hx]
      exact gsv_s
theorem term_eq_ok {t : Tm} (h : t.ok) : f_Term___eq__ [tObj t, tObj t] = some (.ret (.bl true)) := by
  have e1 := keyed_ok (t := t)
  have ea : ansO (ocOf 3) (tObj t) = some true := by unfold tObj; simp
  obtain ⟨h1, h2⟩ := gsv_isD 7 _ (gsv_kT h)
  have e2 := pEq_self h1 (by omega)
  refine runP_eq ?_
  simp [m_Term___eq__, N_Term___eq__, stoP, e1, ea, e2]
theorem pEqO_t {t : Tm} (h : t.ok) : pEqO 3 (okEq 3) f_Term___eq__ (tObj t) (tObj t) = some (.bl true) := by
  have e := term_eq_ok h
  unfold pEqO
  unfold tObj at e ⊢
  dsimp only
  rw [if_pos ⟨rfl, by rfl⟩, e]
  rfl
/-! ### there and back -/
theorem cutL_mid {α : Type} {xs : List α} {k : Nat} {a : α} (h : xs[k]? = some a) : cutL xs (some (k : Int)) (some ((k : Int) + 1)) = [a] := by
  have hk := (List.getElem?_eq_some_iff.mp h).1
  have e : (some ((k : Int) + 1) : Option Int) = some ((k + 1 : Nat) : Int) := rfl
  unfold cutL
  rw [e, HT.sIx_nat, HT.sIx_nat, Nat.min_eq_left (by omega), Nat.min_eq_left (by omega), Nat.add_sub_cancel_left, List.drop_eq_getElem_cons hk]
  have : xs[k] = a := by
    have := List.getElem?_eq_getElem hk
    rw [h] at this
    exact (Option.some.inj this).symm
  rw [this]
  rfl
theorem back_ok {cs : List Chg} {x : PV} {fm : Int} (it : Chg → PV) (h : ∀ c ∈ cs, c.ok) (hl : cs.length ≤ 60) (hf : fm = 0 ∨ fm = 1) (hx : f_deep [x] = some (.ret (.tup (cs.map Chg.md)))) (hix : ∀ k : Nat, pIx x (.int k) = (cs[k]?).map it)
    (hit : ∀ c ∈ cs, f_deep [.lst [it c]] = some (.ret (.tup [c.md]))) (hadd : ∀ t, it (.add t) = .tup [.str "add", tObj t]) : f__law_there_and_back [.tup (cs.map Chg.pv), x, .int fm] = some (.ret (.bl true)) := by
  have hR := rs_of h (by omega)
  have e1 := law_log_ok h (by omega)
  have e2 := write_log_ok h (by omega) hx
  have e3 := same_lines hR.l
  have e4 := read_log_ok h (by omega) (.inl rfl)
  have e5 := read_log_ok h (by omega) (.inr rfl)
  have e6 := told_changes_ok (cs := cs) (by omega)
  have e7 := same_pvs h (by omega)
  have e8 := pNe_lines (LW cs)
  have e9 := write_log_ok h (by omega) (deep_mds h (by omega))
  have loopP : ∀ (a4 : PV), wq (loop (gN 6) (mSeq (mSet 7 (mCB pTuple [mCall f__law_entry_lines [mIxV 0 (mVar 6)]])) (mSeq (mIf (mNot (mTru (mCall f__law_same [mCall f_write_log [mLst [mIxV 1 (mVar 6)]], mVar 7]))) (mRet (mK (.bl false))) (mNx)) (mSeq (mIf (mNot (mTru (mCall f__law_same [mCall f__law_told_changes [mCall f_read_log [mVar 7]], mSl (mVar 0) (mBd (mVar 6)) (mBd (mBin pAdd (mVar 6) (mK (.int 1))))]))) (mRet (mK (.bl false))) (mNx)) (mIf (mAnd (mTest (mBin pEq (mBin pIx (mIxV 0 (mVar 6)) (mK (.int 0))) (mK (.str "add")))) (mNot (mTest (mBin (pEqO 3 (okEq 3) f_Term___eq__) (mBin pIx (mIxV 5 (mVar 6)) (mK (.int 1))) (mBin pIx (mIxV 1 (mVar 6)) (mK (.int 1))))))) (mRet (mK (.bl false))) (mNx))))) (rangeP 0 cs.length))
      [some (.p (.tup (cs.map Chg.pv))), some (.p x), some (.p (.int fm)), some (.p (.tup ((LW cs).map lnP))), some (.p a4), some (.p (.tup (cs.map Chg.md))), none, none]
      (aft (mRet (mCall f__law_same [mCall f_write_log [mVar 5], mVar 3])) (rtP (· = .bl true))) := by
    intro a4
    refine wq_loop (fun ys S => ∃ (is : List Nat) (o6 o7 : Option PV), ys = is.map (fun i : Nat => PV.int (0 + (i : Int))) ∧ (∀ i ∈ is, i < cs.length) ∧ S = [some (.p (.tup (cs.map Chg.pv))), some (.p x), some (.p (.int fm)), some (.p (.tup ((LW cs).map lnP))), some (.p a4), some (.p (.tup (cs.map Chg.md))), o6.map SV.p, o7.map SV.p]) ?_ ?_ ⟨List.range cs.length, none, none, rfl, fun i hi => List.mem_range.mp hi, rfl⟩
    · rintro S ⟨is, o6, o7, e, hi, rfl⟩
      simp [e9, e3]
    · rintro y ys S ⟨is, o6, o7, e, hi, rfl⟩
      cases is with
      | nil => cases e
      | cons k is =>
        obtain ⟨rfl, rfl⟩ := List.cons.inj e
        have hk := hi k List.mem_cons_self
        have q : cs[k]? = some cs[k] := List.getElem?_eq_getElem hk
        have hc := h cs[k] (List.getElem_mem hk)
        generalize cs[k] = c at q hc
        have hmem : c ∈ cs := List.mem_of_getElem? q
        have a1 := law_entry_ok hc
        have one : ∀ d ∈ [c], d.ok := fun d hd => by rw [List.mem_singleton.mp hd]; exact hc
        have lw1 : LW [c] = c.W := by simp [LW]
        have a2 : f_write_log [.lst [it c]] = some (.ret (.tup (c.W.map lnP))) := by
          have := write_log_ok (cs := [c]) one (by simp) (hit c hmem)
          rw [lw1] at this
          exact this
        have wl := W_len hc
        have a3 := same_lines (ws := c.W) (by omega)
        have a5 : f_read_log [.tup (c.W.map lnP)] = some (.ret (.tup [c.md])) := read_log_ok (cs := [c]) one (by simp) (.inr (by rw [lw1]))
        have a6 : f__law_told_changes [.tup [c.md]] = some (.ret (.tup [c.pv])) := told_changes_ok (cs := [c]) (by simp)
        have a7 : f__law_same [.tup [c.pv], .tup [c.pv]] = some (.ret (.bl true)) := same_pvs (cs := [c]) one (by simp)
        have ix0 : atI (cs.map Chg.pv) (k : Int) = some c.pv := by rw [atN, List.getElem?_map, q]; rfl
        have ix5 : atI (cs.map Chg.md) (k : Int) = some c.md := by rw [atN, List.getElem?_map, q]; rfl
        have ix1 : pIx x (.int k) = some (it c) := by rw [hix, q]; rfl
        have cut := cutL_mid (xs := cs.map Chg.pv) (k := k) (a := c.pv) (by rw [List.getElem?_map, q]; rfl)
        refine ⟨_, by simp; rfl, ?_⟩
        simp [ix0, ix1, a1, a2, a3, a5, a6, cut, a7]
        have fin : ∃ (l : List Nat), (is.map (fun i : Nat => PV.int (i : Int))) = l.map (fun i : Nat => PV.int (i : Int)) ∧ (∀ i ∈ l, i < cs.length) := ⟨is, rfl, fun i hi' => hi i (List.mem_cons_of_mem _ hi')⟩
        cases c with
        | add t =>
          simp only [Chg.md] at ix5
          simp [Chg.pv, hadd, ix5, ix1, pEqO_t hc]
          exact ⟨is, rfl, fun i hi' => hi i (List.mem_cons_of_mem _ hi'), ⟨some _, rfl⟩, ⟨some _, rfl⟩⟩
        | _ =>
          simp [Chg.pv]
          exact ⟨is, rfl, fun i hi' => hi i (List.mem_cons_of_mem _ hi'), ⟨some _, rfl⟩, ⟨some _, rfl⟩⟩
  refine runP_eq ?_
  simp [m__law_there_and_back, N__law_there_and_back, stoP, e1, e2, e3]
  refine brS_any (fun z => z = .lst ((LW cs).map lnP) ∨ z = .tup ((LW cs).map lnP)) (fun q => by simp) (fun q => by simp) fun z hz => ?_
  have er : f_read_log [z] = some (.ret (.tup (cs.map Chg.md))) := read_log_ok h (by omega) hz
  have et : pTuple [z] = some (.tup ((LW cs).map lnP)) := by rcases hz with rfl | rfl <;> rfl
  simp [er, e6, e7, et, e8]
  exact ⟨inR_of (by omega) (by omega), loopP z⟩
end A08
set_option Elab.async false
set_option linter.all false
set_option maxRecDepth 100000
set_option maxHeartbeats 4000000
namespace A08
open PySem L2 Kp
theorem back_0 {cs : List Chg} (h : ∀ c ∈ cs, c.ok) (hl : cs.length ≤ 60) : f__law_there_and_back [.tup (cs.map Chg.pv), .tup (cs.map Chg.md), .int 0] = some (.ret (.bl true)) :=
  back_ok Chg.md h hl (.inl rfl) (deep_mds h (by omega)) (fun k => by rw [pIx_tup, atN, List.getElem?_map]) (fun c hc => deep_mdl (cs := [c]) (fun d hd => by rw [List.mem_singleton.mp hd]; exact h c hc) (by simp)) fun t => rfl
theorem back_1 {cs : List Chg} (h : ∀ c ∈ cs, c.ok) (hl : cs.length ≤ 60) : f__law_there_and_back [.tup (cs.map Chg.pv), .lst (cs.map Chg.ml), .int 1] = some (.ret (.bl true)) :=
  back_ok Chg.ml h hl (.inr rfl) (deep_mls h (by omega)) (fun k => by rw [pIx_lst, atN, List.getElem?_map]) (fun c hc => deep_mls (cs := [c]) (fun d hd => by rw [List.mem_singleton.mp hd]; exact h c hc) (by simp)) fun t => rfl
theorem law_true (ns : List Int) (hl : ns.length ≤ 63) : f_law [.frl ns] = some (.ret (.bl true)) := by
  have s0 : Src (.lst [.frl ns, .int 0, .int 0, .int 0, .int 0]) := ⟨ns, 0, 0, 0, 0, rfl, hl, Int.le_refl _⟩
  have e0 : f__law_source [.frl ns, .int 0] = some (.ret (.lst [.frl ns, .int 0, .int 0, .int 0, .int 0])) := rfl
  obtain ⟨x1, y1, e1, s1, rfl⟩ := next_ok s0
  obtain ⟨x2, y2, e2, s2, words, rfl, hwl, _, hww⟩ := words_ok (n := 4) s1 (by decide)
  have e2' : f__law_words x1 [.int 4, .int 7, .lst []] = some (x2, .ret (.lst (words.map .str))) := e2
  obtain ⟨x3, y3, e3, s3, b3, rfl⟩ := one_in_ok s2 (n := 16) (by decide) (by decide)
  refine runP_eq ?_
  simp [m_law, N_law, stoP, e0, e1, e2', e3]
  refine brS_any (fun z => ∃ m : Nat, z = .int m ∧ 1 ≤ m ∧ m ≤ 40) (fun q => ?_) (fun q => ?_) (fun z ⟨m, ez, hm1, hm2⟩ => ?_)
  · simp
    exact ⟨40, rfl, by decide, by decide⟩
  · simp
    exact ⟨8, rfl, by decide, by decide⟩
  subst ez
  obtain ⟨x4, y4, e4, s4, n4, rfl, hn4⟩ := pick_ok s3 (n := m) (by omega) (by omega)
  simp [e4, szL, rangeP_len]
  refine ⟨inR_of (by omega) (by omega), by omega, ?_⟩
  refine lcE_draw (fun x => [some (.p (.frl ns)), some (.o x), some (.p (.lst (words.map .str))), some (.p (.int m)), none, none, none, none, none, none]) (fun _ => True) (fun z => ∃ c : Chg, z = c.pv ∧ c.ok) s4 (fun _ _ => trivial) (fun x y hx _ => ?_) fun zs x5 hl5 hz5 s5 => ?_
  · obtain ⟨x', y', e', s', c, rfl, hc⟩ := wide_change_ok (words := words) hx hwl hww
    refine ⟨_, by simp; rfl, ?_⟩
    simp [e']
    exact ⟨⟨c, rfl, hc⟩, s'⟩
  obtain ⟨cs, rfl, hcs⟩ := chgs_of hz5
  rw [rangeP_len, List.length_map] at hl5
  have hcl : cs.length ≤ 40 := by omega
  obtain ⟨x6, y6, e6, s6, n6, rfl, hn6⟩ := pick_ok s5 (n := 5) (by decide) (by decide)
  simp [e6, szL, rangeP_len]
  refine ⟨inR_of (by omega) (by omega), by omega, ?_⟩
  refine lcE_draw (fun x => [some (.p (.frl ns)), some (.o x), some (.p (.lst (words.map .str))), some (.p (.int m)), some (.p (.tup (cs.map Chg.pv))), none, none, none, none, none]) (fun _ => True) (fun z => ∃ c : Chg, z = c.pv ∧ c.ok) s6 (fun _ _ => trivial) (fun x y hx _ => ?_) fun zs x7 hl7 hz7 s7 => ?_
  · obtain ⟨x', y', e', s', c, rfl, hc⟩ := wide_change_ok (words := words) hx hwl hww
    refine ⟨_, by simp; rfl, ?_⟩
    simp [e']
    exact ⟨⟨c, rfl, hc⟩, s'⟩
  obtain ⟨os, rfl, hos⟩ := chgs_of hz7
  rw [rangeP_len, List.length_map] at hl7
  have hol : os.length ≤ 5 := by omega
  have both : ∀ c ∈ cs ++ os, c.ok := fun c hc => by
    rcases List.mem_append.mp hc with q | q
    · exact hcs c q
    · exact hos c q
  have a1 := made_0 hcs (by omega)
  have a2 := made_1 hos (by omega)
  have a3 := back_0 hcs (by omega)
  have a4 := back_1 hos (by omega)
  have a5 := law_log_ok hcs (by omega)
  have a6 := law_log_ok hos (by omega)
  have a7 := read_log_ok (x := .lst ((LW cs).map lnP ++ (LW os).map lnP)) both (by simp; omega) (.inl (by simp [LW]))
  have a8 := told_changes_ok (cs := cs ++ os) (by simp; omega)
  have a9 := same_pvs both (by simp; omega)
  have a10 := made_1 hcs (by omega)
  have a11 := back_1 hcs (by omega)
  have l1 := LW_len hcs
  have l2 := LW_len hos
  rw [List.map_append] at a7 a8 a9
  rw [List.map_append] at a8
  simp [a1, a2, a3, a4, a5, a6, a7, a8, a9, a10, a11, szL]
  omega
end A08
set_option Elab.async false
set_option linter.all false
set_option maxRecDepth 100000
set_option maxHeartbeats 4000000
namespace A08
open PySem PySem.Spec PyProof.Rows L2 Kp
theorem all_mk {l : PySem.W.OpenLaw} {w : World} {K : PySem.W.Frag} {h : Heap} {mg : Str → Option Value} {fl : Addr} (X : K.In h) (G : h.Ns mainGlobals mg) (hfa : mg "law" = some (.ref fl))
    {C0 C1 C2 C3 C4 f1 f2 f3 f4 f5 f6 f7 f8 f9 f10 f11 f14 f15 f16 f17 f18 f19 f20 f21 f23 f24 f25 f27 f28 f29 f30 f31 f32 f33 f34 f35 f36 f37 f38 f39 f40 f41 f42 f43 f44 f45 f46 f47 f48 f49 f50 f51 f52 f53 f54 f55 f56 f57 f58 f59 f60 f61 f62 f63 f64 f65 f66 f67 f68 f69 f70 f71 dT11 : Addr}
    {sl1 : Array (Option Value)} {od1 an1 : Option Addr} {oc1 kV1 dc1 pm1 cd1 ct1 : Value}
    {sl2 : Array (Option Value)} {od2 an2 : Option Addr} {oc2 kV2 dc2 pm2 cd2 ct2 : Value}
    {sl3 : Array (Option Value)} {od3 an3 : Option Addr} {oc3 kV3 dc3 pm3 cd3 ct3 : Value}
    {sl4 : Array (Option Value)} {od4 an4 : Option Addr} {oc4 kV4 dc4 pm4 cd4 ct4 : Value}
    {sl5 : Array (Option Value)} {od5 an5 : Option Addr} {oc5 kV5 dc5 pm5 cd5 ct5 : Value}
    {sl6 : Array (Option Value)} {od6 an6 : Option Addr} {oc6 kV6 dc6 pm6 cd6 ct6 : Value}
    {sl7 : Array (Option Value)} {od7 an7 : Option Addr} {oc7 kV7 dc7 pm7 cd7 ct7 : Value}
    {sl8 : Array (Option Value)} {od8 an8 : Option Addr} {oc8 kV8 dc8 pm8 cd8 ct8 : Value}
    {sl9 : Array (Option Value)} {od9 an9 : Option Addr} {oc9 kV9 dc9 pm9 cd9 ct9 : Value}
    {sl10 : Array (Option Value)} {od10 an10 : Option Addr} {oc10 kV10 dc10 pm10 cd10 ct10 : Value}
    {sl11 : Array (Option Value)} {od11 an11 : Option Addr} {oc11 dc11 pm11 cd11 ct11 : Value} {kD11 : Addr}
    {sl15 : Array (Option Value)} {od15 an15 : Option Addr} {oc15 kV15 dc15 pm15 cd15 ct15 : Value}
    {sl16 : Array (Option Value)} {od16 an16 : Option Addr} {oc16 kV16 dc16 pm16 cd16 ct16 : Value}
    {sl17 : Array (Option Value)} {od17 an17 : Option Addr} {oc17 kV17 dc17 pm17 cd17 ct17 : Value}
    {sl18 : Array (Option Value)} {od18 an18 : Option Addr} {oc18 kV18 dc18 pm18 cd18 ct18 : Value}
    {sl19 : Array (Option Value)} {od19 an19 : Option Addr} {oc19 kV19 dc19 pm19 cd19 ct19 : Value}
    {sl20 : Array (Option Value)} {od20 an20 : Option Addr} {oc20 kV20 dc20 pm20 cd20 ct20 : Value}
    {sl21 : Array (Option Value)} {od21 an21 : Option Addr} {oc21 kV21 dc21 pm21 cd21 ct21 : Value}
    {sl23 : Array (Option Value)} {od23 an23 : Option Addr} {oc23 kV23 dc23 pm23 cd23 ct23 : Value}
    {sl24 : Array (Option Value)} {od24 an24 : Option Addr} {oc24 kV24 dc24 pm24 cd24 ct24 : Value}
    {sl25 : Array (Option Value)} {od25 an25 : Option Addr} {oc25 kV25 dc25 pm25 cd25 ct25 : Value}
    {sl27 : Array (Option Value)} {od27 an27 : Option Addr} {oc27 kV27 dc27 pm27 cd27 ct27 : Value}
    {sl28 : Array (Option Value)} {od28 an28 : Option Addr} {oc28 kV28 dc28 pm28 cd28 ct28 : Value}
    {sl29 : Array (Option Value)} {od29 an29 : Option Addr} {oc29 kV29 dc29 pm29 cd29 ct29 : Value}
    {sl30 : Array (Option Value)} {od30 an30 : Option Addr} {oc30 kV30 dc30 pm30 cd30 ct30 : Value}
    {sl31 : Array (Option Value)} {od31 an31 : Option Addr} {oc31 kV31 dc31 pm31 cd31 ct31 : Value}
    {sl32 : Array (Option Value)} {od32 an32 : Option Addr} {oc32 kV32 dc32 pm32 cd32 ct32 : Value}
    {sl33 : Array (Option Value)} {od33 an33 : Option Addr} {oc33 kV33 dc33 pm33 cd33 ct33 : Value}
    {sl34 : Array (Option Value)} {od34 an34 : Option Addr} {oc34 kV34 dc34 pm34 cd34 ct34 : Value}
    {sl35 : Array (Option Value)} {od35 an35 : Option Addr} {oc35 kV35 dc35 pm35 cd35 ct35 : Value}
    {sl36 : Array (Option Value)} {od36 an36 : Option Addr} {oc36 kV36 dc36 pm36 cd36 ct36 : Value}
    {sl37 : Array (Option Value)} {od37 an37 : Option Addr} {oc37 kV37 dc37 pm37 cd37 ct37 : Value}
    {sl38 : Array (Option Value)} {od38 an38 : Option Addr} {oc38 kV38 dc38 pm38 cd38 ct38 : Value}
    {sl39 : Array (Option Value)} {od39 an39 : Option Addr} {oc39 kV39 dc39 pm39 cd39 ct39 : Value}
    {sl40 : Array (Option Value)} {od40 an40 : Option Addr} {oc40 kV40 dc40 pm40 cd40 ct40 : Value}
    {sl41 : Array (Option Value)} {od41 an41 : Option Addr} {oc41 kV41 dc41 pm41 cd41 ct41 : Value}
    {sl42 : Array (Option Value)} {od42 an42 : Option Addr} {oc42 kV42 dc42 pm42 cd42 ct42 : Value}
    {sl43 : Array (Option Value)} {od43 an43 : Option Addr} {oc43 kV43 dc43 pm43 cd43 ct43 : Value}
    {sl44 : Array (Option Value)} {od44 an44 : Option Addr} {oc44 kV44 dc44 pm44 cd44 ct44 : Value}
    {sl45 : Array (Option Value)} {od45 an45 : Option Addr} {oc45 kV45 dc45 pm45 cd45 ct45 : Value}
    {sl46 : Array (Option Value)} {od46 an46 : Option Addr} {oc46 kV46 dc46 pm46 cd46 ct46 : Value}
    {sl47 : Array (Option Value)} {od47 an47 : Option Addr} {oc47 kV47 dc47 pm47 cd47 ct47 : Value}
    {sl48 : Array (Option Value)} {od48 an48 : Option Addr} {oc48 kV48 dc48 pm48 cd48 ct48 : Value}
    {sl49 : Array (Option Value)} {od49 an49 : Option Addr} {oc49 kV49 dc49 pm49 cd49 ct49 : Value}
    {sl50 : Array (Option Value)} {od50 an50 : Option Addr} {oc50 kV50 dc50 pm50 cd50 ct50 : Value}
    {sl51 : Array (Option Value)} {od51 an51 : Option Addr} {oc51 kV51 dc51 pm51 cd51 ct51 : Value}
    {sl52 : Array (Option Value)} {od52 an52 : Option Addr} {oc52 kV52 dc52 pm52 cd52 ct52 : Value}
    {sl53 : Array (Option Value)} {od53 an53 : Option Addr} {oc53 kV53 dc53 pm53 cd53 ct53 : Value}
    {sl54 : Array (Option Value)} {od54 an54 : Option Addr} {oc54 kV54 dc54 pm54 cd54 ct54 : Value}
    {sl55 : Array (Option Value)} {od55 an55 : Option Addr} {oc55 kV55 dc55 pm55 cd55 ct55 : Value}
    {sl56 : Array (Option Value)} {od56 an56 : Option Addr} {oc56 kV56 dc56 pm56 cd56 ct56 : Value}
    {sl57 : Array (Option Value)} {od57 an57 : Option Addr} {oc57 kV57 dc57 pm57 cd57 ct57 : Value}
    {sl58 : Array (Option Value)} {od58 an58 : Option Addr} {oc58 kV58 dc58 pm58 cd58 ct58 : Value}
    {sl59 : Array (Option Value)} {od59 an59 : Option Addr} {oc59 kV59 dc59 pm59 cd59 ct59 : Value}
    {sl60 : Array (Option Value)} {od60 an60 : Option Addr} {oc60 kV60 dc60 pm60 cd60 ct60 : Value}
    {sl61 : Array (Option Value)} {od61 an61 : Option Addr} {oc61 kV61 dc61 pm61 cd61 ct61 : Value}
    {sl62 : Array (Option Value)} {od62 an62 : Option Addr} {oc62 kV62 dc62 pm62 cd62 ct62 : Value}
    {sl63 : Array (Option Value)} {od63 an63 : Option Addr} {oc63 kV63 dc63 pm63 cd63 ct63 : Value}
    {sl64 : Array (Option Value)} {od64 an64 : Option Addr} {oc64 kV64 dc64 pm64 cd64 ct64 : Value}
    {sl65 : Array (Option Value)} {od65 an65 : Option Addr} {oc65 kV65 dc65 pm65 cd65 ct65 : Value}
    {sl66 : Array (Option Value)} {od66 an66 : Option Addr} {oc66 kV66 dc66 pm66 cd66 ct66 : Value}
    {sl67 : Array (Option Value)} {od67 an67 : Option Addr} {oc67 kV67 dc67 pm67 cd67 ct67 : Value}
    {sl68 : Array (Option Value)} {od68 an68 : Option Addr} {oc68 kV68 dc68 pm68 cd68 ct68 : Value}
    {sl70 : Array (Option Value)} {od70 an70 : Option Addr} {oc70 kV70 dc70 pm70 cd70 ct70 : Value}
    {sl14 : Array (Option Value)} {od14 an14 : Option Addr} {oc14 kV14 dc14 pm14 cd14 ct14 : Value}
    {sl69 : Array (Option Value)} {od69 an69 : Option Addr} {oc69 kV69 dc69 pm69 cd69 ct69 : Value}
    {sl71 : Array (Option Value)} {od71 an71 : Option Addr} {oc71 kV71 dc71 pm71 cd71 ct71 : Value}
    {tk_GAP : Tok}
    {ta_PLAIN_SCOPES : Addr} {tn_PLAIN_SCOPES : Nat} {ts_PLAIN_SCOPES : Array (Option Value)} {tt_PLAIN_SCOPES_0 tt_PLAIN_SCOPES_1 tt_PLAIN_SCOPES_2 : Tok}
    {ta_SCOPES_OF_A_WORD : Addr} {tn_SCOPES_OF_A_WORD : Nat} {ts_SCOPES_OF_A_WORD : Array (Option Value)} {tt_SCOPES_OF_A_WORD_0 tt_SCOPES_OF_A_WORD_1 : Tok}
    {xnm1 xq1 : Str} {xN1 : Addr} {xbs1 : List Value} {xsn1 : List Str} {xsub1 : List Value} {xab1 : Bool} {xcol1 : Option Bool} {xdd1 : Option Addr} {xm1 xn1 xo1 xp1 xr1 : Option Value} {xA1 : Addr}
    {xnm2 xq2 : Str} {xN2 : Addr} {xbs2 : List Value} {xsn2 : List Str} {xsub2 : List Value} {xab2 : Bool} {xcol2 : Option Bool} {xdd2 : Option Addr} {xm2 xn2 xo2 xp2 xr2 : Option Value} {xA2 : Addr}
    (h9 : PySem.W.nsIn K mainGlobals "deep" = some (some (.ref f3)))
    (h13 : PySem.W.nsIn K mainGlobals "is_word" = some (some (.ref f4)))
    (h17 : PySem.W.nsIn K mainGlobals "is_note" = some (some (.ref f5)))
    (h21 : PySem.W.nsIn K mainGlobals "is_token" = some (some (.ref f6)))
    (h25 : PySem.W.nsIn K mainGlobals "is_pattern" = some (some (.ref f7)))
    (h29 : PySem.W.nsIn K mainGlobals "are_items" = some (some (.ref f8)))
    (h33 : PySem.W.nsIn K mainGlobals "is_way" = some (some (.ref f9)))
    (h37 : PySem.W.nsIn K mainGlobals "is_scope" = some (some (.ref f10)))
    (h47 : PySem.W.nsIn K mainGlobals "keyed_term" = some (some (.ref f15)))
    (h84 : PySem.W.nsIn K mainGlobals "line_of" = some (some (.ref f29)))
    (h88 : PySem.W.nsIn K mainGlobals "write_term" = some (some (.ref f30)))
    (h92 : PySem.W.nsIn K mainGlobals "items_from" = some (some (.ref f31)))
    (h96 : PySem.W.nsIn K mainGlobals "way_rows" = some (some (.ref f32)))
    (h100 : PySem.W.nsIn K mainGlobals "scope_row" = some (some (.ref f33)))
    (h104 : PySem.W.nsIn K mainGlobals "end_line" = some (some (.ref f34)))
    (h108 : PySem.W.nsIn K mainGlobals "term_row" = some (some (.ref f35)))
    (h112 : PySem.W.nsIn K mainGlobals "made_term" = some (some (.ref f36)))
    (h116 : PySem.W.nsIn K mainGlobals "entry_lines" = some (some (.ref f37)))
    (h120 : PySem.W.nsIn K mainGlobals "write_log" = some (some (.ref f38)))
    (h124 : PySem.W.nsIn K mainGlobals "name_line" = some (some (.ref f39)))
    (h128 : PySem.W.nsIn K mainGlobals "added_row" = some (some (.ref f40)))
    (h132 : PySem.W.nsIn K mainGlobals "ways_of_entry" = some (some (.ref f41)))
    (h136 : PySem.W.nsIn K mainGlobals "first_of_entry" = some (some (.ref f42)))
    (h140 : PySem.W.nsIn K mainGlobals "entry_row" = some (some (.ref f43)))
    (h144 : PySem.W.nsIn K mainGlobals "made_change" = some (some (.ref f44)))
    (h148 : PySem.W.nsIn K mainGlobals "read_log" = some (some (.ref f45)))
    (h152 : PySem.W.nsIn K mainGlobals "_law_source" = some (some (.ref f46)))
    (h156 : PySem.W.nsIn K mainGlobals "_law_next" = some (some (.ref f47)))
    (h160 : PySem.W.nsIn K mainGlobals "_law_pick" = some (some (.ref f48)))
    (h164 : PySem.W.nsIn K mainGlobals "_law_one_in" = some (some (.ref f49)))
    (h168 : PySem.W.nsIn K mainGlobals "_law_one_of" = some (some (.ref f50)))
    (h172 : PySem.W.nsIn K mainGlobals "_law_letter" = some (some (.ref f51)))
    (h176 : PySem.W.nsIn K mainGlobals "_law_word" = some (some (.ref f52)))
    (h180 : PySem.W.nsIn K mainGlobals "_law_words" = some (some (.ref f53)))
    (h184 : PySem.W.nsIn K mainGlobals "_law_lists" = some (some (.ref f54)))
    (h188 : PySem.W.nsIn K mainGlobals "_law_same" = some (some (.ref f55)))
    (h192 : PySem.W.nsIn K mainGlobals "_law_change" = some (some (.ref f56)))
    (h196 : PySem.W.nsIn K mainGlobals "_law_wide_way" = some (some (.ref f57)))
    (h200 : PySem.W.nsIn K mainGlobals "_law_wide_reach" = some (some (.ref f58)))
    (h204 : PySem.W.nsIn K mainGlobals "_law_wide_term" = some (some (.ref f59)))
    (h208 : PySem.W.nsIn K mainGlobals "_law_free_way" = some (some (.ref f60)))
    (h212 : PySem.W.nsIn K mainGlobals "_law_wide_change" = some (some (.ref f61)))
    (h216 : PySem.W.nsIn K mainGlobals "_law_line" = some (some (.ref f62)))
    (h220 : PySem.W.nsIn K mainGlobals "_law_term_lines" = some (some (.ref f63)))
    (h224 : PySem.W.nsIn K mainGlobals "_law_entry_lines" = some (some (.ref f64)))
    (h228 : PySem.W.nsIn K mainGlobals "_law_log_lines" = some (some (.ref f65)))
    (h232 : PySem.W.nsIn K mainGlobals "_law_told_term" = some (some (.ref f66)))
    (h236 : PySem.W.nsIn K mainGlobals "_law_told_change" = some (some (.ref f67)))
    (h240 : PySem.W.nsIn K mainGlobals "_law_told_changes" = some (some (.ref f68)))
    (h244 : PySem.W.nsIn K mainGlobals "_law_made" = some (some (.ref f70)))
    (h251 : PySem.W.nsIn K mainGlobals "_law_there_and_back" = some (some (.ref f69)))
    (h255 : PySem.W.nsIn K mainGlobals "law" = some (some (.ref f71)))
    (h259 : PySem.W.nsIn K mainGlobals "GAP" = some (some (.str "_" tk_GAP)))
    (h260 : PySem.W.nsIn K mainGlobals "PLAIN_SCOPES" = some (some (.ref ta_PLAIN_SCOPES)))
    (h262 : PySem.W.nsIn K mainGlobals "SCOPES_OF_A_WORD" = some (some (.ref ta_SCOPES_OF_A_WORD)))
    (h278 : PySem.W.nsIn K mainGlobals "AcrossError" = some (some (.ref C0)))
    (h282 : PySem.W.nsIn K mainGlobals "BadTerm" = some (some (.ref C1)))
    (h291 : PySem.W.nsIn K mainGlobals "BadLine" = some (some (.ref C2)))
    (h301 : PySem.W.nsIn K mainGlobals "Term" = some (some (.ref C3)))
    (h331 : PySem.W.nsIn K mainGlobals "Lines" = some (some (.ref C4)))
    (h261 : K.lookup ta_PLAIN_SCOPES = some ⟨.type "tuple", none, .seq #[.str "work" tt_PLAIN_SCOPES_0, .str "plain" tt_PLAIN_SCOPES_1, .str "quoted" tt_PLAIN_SCOPES_2] tn_PLAIN_SCOPES, ts_PLAIN_SCOPES⟩)
    (h263 : K.lookup ta_SCOPES_OF_A_WORD = some ⟨.type "tuple", none, .seq #[.str "in" tt_SCOPES_OF_A_WORD_0, .str "behind" tt_SCOPES_OF_A_WORD_1] tn_SCOPES_OF_A_WORD, ts_SCOPES_OF_A_WORD⟩)
    (h283 : K.lookup C1 = some (excClassObj xnm1 xq1 C1 xN1 xbs1 [.ref xA1, .type "ValueError", .type "Exception", .type "BaseException", .type "object"] true xsn1 xsub1 xab1 xcol1 xdd1 xm1 xn1 xo1 xp1 xr1 "ValueError.__new__"))
    (h288 : PySem.W.findIn K (.ref C1) "__init__" = some (some (.ref f1)))
    (h292 : K.lookup C2 = some (excClassObj xnm2 xq2 C2 xN2 xbs2 [.ref xA2, .type "ValueError", .type "Exception", .type "BaseException", .type "object"] true xsn2 xsub2 xab2 xcol2 xdd2 xm2 xn2 xo2 xp2 xr2 "ValueError.__new__"))
    (h297 : PySem.W.findIn K (.ref C2) "__init__" = some (some (.ref f2)))
    (h326 : PySem.W.findIn K (.ref C3) "__init__" = some (some (.ref f11)))
    (h329 : PySem.W.findIn K (.ref C3) "__eq__" = some (some (.ref f14)))
    (h350 : PySem.W.findIn K (.ref C4) "__init__" = some (some (.ref f16)))
    (h353 : PySem.W.findIn K (.ref C4) "line_number" = some (some (.ref f17)))
    (h355 : PySem.W.findIn K (.ref C4) "line_words" = some (some (.ref f18)))
    (h357 : PySem.W.findIn K (.ref C4) "first_word" = some (some (.ref f19)))
    (h359 : PySem.W.findIn K (.ref C4) "many_words" = some (some (.ref f20)))
    (h361 : PySem.W.findIn K (.ref C4) "word_at" = some (some (.ref f21)))
    (h363 : PySem.W.findIn K (.ref C4) "fail_at" = some (some (.ref f23)))
    (h365 : PySem.W.findIn K (.ref C4) "name_at" = some (some (.ref f24)))
    (h367 : PySem.W.findIn K (.ref C4) "item_at" = some (some (.ref f25)))
    (h369 : PySem.W.findIn K (.ref C4) "want_word" = some (some (.ref f27)))
    (h371 : PySem.W.findIn K (.ref C4) "close_at" = some (some (.ref f28)))
    (h0 : K.lookup f1 = some ⟨oc1, od1, .func (PySem.W.fnOf "__init__" "BadTerm.__init__" (defArgs s_BadTerm___init__) (defBody s_BadTerm___init__) (defScope s_BadTerm___init__) .none kV1 dc1 pm1 an1 cd1 ct1), sl1⟩)
    (h3 : K.lookup f2 = some ⟨oc2, od2, .func (PySem.W.fnOf "__init__" "BadLine.__init__" (defArgs s_BadLine___init__) (defBody s_BadLine___init__) (defScope s_BadLine___init__) .none kV2 dc2 pm2 an2 cd2 ct2), sl2⟩)
    (h6 : K.lookup f3 = some ⟨oc3, od3, .func (PySem.W.fnOf "deep" "deep" (defArgs s_deep) (defBody s_deep) (defScope s_deep) .none kV3 dc3 pm3 an3 cd3 ct3), sl3⟩)
    (h10 : K.lookup f4 = some ⟨oc4, od4, .func (PySem.W.fnOf "is_word" "is_word" (defArgs s_is_word) (defBody s_is_word) (defScope s_is_word) .none kV4 dc4 pm4 an4 cd4 ct4), sl4⟩)
    (h14 : K.lookup f5 = some ⟨oc5, od5, .func (PySem.W.fnOf "is_note" "is_note" (defArgs s_is_note) (defBody s_is_note) (defScope s_is_note) .none kV5 dc5 pm5 an5 cd5 ct5), sl5⟩)
    (h18 : K.lookup f6 = some ⟨oc6, od6, .func (PySem.W.fnOf "is_token" "is_token" (defArgs s_is_token) (defBody s_is_token) (defScope s_is_token) .none kV6 dc6 pm6 an6 cd6 ct6), sl6⟩)
    (h22 : K.lookup f7 = some ⟨oc7, od7, .func (PySem.W.fnOf "is_pattern" "is_pattern" (defArgs s_is_pattern) (defBody s_is_pattern) (defScope s_is_pattern) .none kV7 dc7 pm7 an7 cd7 ct7), sl7⟩)
    (h26 : K.lookup f8 = some ⟨oc8, od8, .func (PySem.W.fnOf "are_items" "are_items" (defArgs s_are_items) (defBody s_are_items) (defScope s_are_items) .none kV8 dc8 pm8 an8 cd8 ct8), sl8⟩)
    (h30 : K.lookup f9 = some ⟨oc9, od9, .func (PySem.W.fnOf "is_way" "is_way" (defArgs s_is_way) (defBody s_is_way) (defScope s_is_way) .none kV9 dc9 pm9 an9 cd9 ct9), sl9⟩)
    (h34 : K.lookup f10 = some ⟨oc10, od10, .func (PySem.W.fnOf "is_scope" "is_scope" (defArgs s_is_scope) (defBody s_is_scope) (defScope s_is_scope) .none kV10 dc10 pm10 an10 cd10 ct10), sl10⟩)
    (h38 : K.lookup f11 = some ⟨oc11, od11, .func (PySem.W.fnOf "__init__" "Term.__init__" (defArgs s_Term___init__) (defBody s_Term___init__) (defScope s_Term___init__) .none (.ref kD11) dc11 pm11 an11 cd11 ct11), sl11⟩)
    (h44 : K.lookup f15 = some ⟨oc15, od15, .func (PySem.W.fnOf "keyed_term" "keyed_term" (defArgs s_keyed_term) (defBody s_keyed_term) (defScope s_keyed_term) .none kV15 dc15 pm15 an15 cd15 ct15), sl15⟩)
    (h48 : K.lookup f16 = some ⟨oc16, od16, .func (PySem.W.fnOf "__init__" "Lines.__init__" (defArgs s_Lines___init__) (defBody s_Lines___init__) (defScope s_Lines___init__) .none kV16 dc16 pm16 an16 cd16 ct16), sl16⟩)
    (h51 : K.lookup f17 = some ⟨oc17, od17, .func (PySem.W.fnOf "line_number" "Lines.line_number" (defArgs s_Lines_line_number) (defBody s_Lines_line_number) (defScope s_Lines_line_number) .none kV17 dc17 pm17 an17 cd17 ct17), sl17⟩)
    (h54 : K.lookup f18 = some ⟨oc18, od18, .func (PySem.W.fnOf "line_words" "Lines.line_words" (defArgs s_Lines_line_words) (defBody s_Lines_line_words) (defScope s_Lines_line_words) .none kV18 dc18 pm18 an18 cd18 ct18), sl18⟩)
    (h57 : K.lookup f19 = some ⟨oc19, od19, .func (PySem.W.fnOf "first_word" "Lines.first_word" (defArgs s_Lines_first_word) (defBody s_Lines_first_word) (defScope s_Lines_first_word) .none kV19 dc19 pm19 an19 cd19 ct19), sl19⟩)
    (h60 : K.lookup f20 = some ⟨oc20, od20, .func (PySem.W.fnOf "many_words" "Lines.many_words" (defArgs s_Lines_many_words) (defBody s_Lines_many_words) (defScope s_Lines_many_words) .none kV20 dc20 pm20 an20 cd20 ct20), sl20⟩)
    (h63 : K.lookup f21 = some ⟨oc21, od21, .func (PySem.W.fnOf "word_at" "Lines.word_at" (defArgs s_Lines_word_at) (defBody s_Lines_word_at) (defScope s_Lines_word_at) .none kV21 dc21 pm21 an21 cd21 ct21), sl21⟩)
    (h66 : K.lookup f23 = some ⟨oc23, od23, .func (PySem.W.fnOf "fail_at" "Lines.fail_at" (defArgs s_Lines_fail_at) (defBody s_Lines_fail_at) (defScope s_Lines_fail_at) .none kV23 dc23 pm23 an23 cd23 ct23), sl23⟩)
    (h69 : K.lookup f24 = some ⟨oc24, od24, .func (PySem.W.fnOf "name_at" "Lines.name_at" (defArgs s_Lines_name_at) (defBody s_Lines_name_at) (defScope s_Lines_name_at) .none kV24 dc24 pm24 an24 cd24 ct24), sl24⟩)
    (h72 : K.lookup f25 = some ⟨oc25, od25, .func (PySem.W.fnOf "item_at" "Lines.item_at" (defArgs s_Lines_item_at) (defBody s_Lines_item_at) (defScope s_Lines_item_at) .none kV25 dc25 pm25 an25 cd25 ct25), sl25⟩)
    (h75 : K.lookup f27 = some ⟨oc27, od27, .func (PySem.W.fnOf "want_word" "Lines.want_word" (defArgs s_Lines_want_word) (defBody s_Lines_want_word) (defScope s_Lines_want_word) .none kV27 dc27 pm27 an27 cd27 ct27), sl27⟩)
    (h78 : K.lookup f28 = some ⟨oc28, od28, .func (PySem.W.fnOf "close_at" "Lines.close_at" (defArgs s_Lines_close_at) (defBody s_Lines_close_at) (defScope s_Lines_close_at) .none kV28 dc28 pm28 an28 cd28 ct28), sl28⟩)
    (h81 : K.lookup f29 = some ⟨oc29, od29, .func (PySem.W.fnOf "line_of" "line_of" (defArgs s_line_of) (defBody s_line_of) (defScope s_line_of) .none kV29 dc29 pm29 an29 cd29 ct29), sl29⟩)
    (h85 : K.lookup f30 = some ⟨oc30, od30, .func (PySem.W.fnOf "write_term" "write_term" (defArgs s_write_term) (defBody s_write_term) (defScope s_write_term) .none kV30 dc30 pm30 an30 cd30 ct30), sl30⟩)
    (h89 : K.lookup f31 = some ⟨oc31, od31, .func (PySem.W.fnOf "items_from" "items_from" (defArgs s_items_from) (defBody s_items_from) (defScope s_items_from) .none kV31 dc31 pm31 an31 cd31 ct31), sl31⟩)
    (h93 : K.lookup f32 = some ⟨oc32, od32, .func (PySem.W.fnOf "way_rows" "way_rows" (defArgs s_way_rows) (defBody s_way_rows) (defScope s_way_rows) .none kV32 dc32 pm32 an32 cd32 ct32), sl32⟩)
    (h97 : K.lookup f33 = some ⟨oc33, od33, .func (PySem.W.fnOf "scope_row" "scope_row" (defArgs s_scope_row) (defBody s_scope_row) (defScope s_scope_row) .none kV33 dc33 pm33 an33 cd33 ct33), sl33⟩)
    (h101 : K.lookup f34 = some ⟨oc34, od34, .func (PySem.W.fnOf "end_line" "end_line" (defArgs s_end_line) (defBody s_end_line) (defScope s_end_line) .none kV34 dc34 pm34 an34 cd34 ct34), sl34⟩)
    (h105 : K.lookup f35 = some ⟨oc35, od35, .func (PySem.W.fnOf "term_row" "term_row" (defArgs s_term_row) (defBody s_term_row) (defScope s_term_row) .none kV35 dc35 pm35 an35 cd35 ct35), sl35⟩)
    (h109 : K.lookup f36 = some ⟨oc36, od36, .func (PySem.W.fnOf "made_term" "made_term" (defArgs s_made_term) (defBody s_made_term) (defScope s_made_term) .none kV36 dc36 pm36 an36 cd36 ct36), sl36⟩)
    (h113 : K.lookup f37 = some ⟨oc37, od37, .func (PySem.W.fnOf "entry_lines" "entry_lines" (defArgs s_entry_lines) (defBody s_entry_lines) (defScope s_entry_lines) .none kV37 dc37 pm37 an37 cd37 ct37), sl37⟩)
    (h117 : K.lookup f38 = some ⟨oc38, od38, .func (PySem.W.fnOf "write_log" "write_log" (defArgs s_write_log) (defBody s_write_log) (defScope s_write_log) .none kV38 dc38 pm38 an38 cd38 ct38), sl38⟩)
    (h121 : K.lookup f39 = some ⟨oc39, od39, .func (PySem.W.fnOf "name_line" "name_line" (defArgs s_name_line) (defBody s_name_line) (defScope s_name_line) .none kV39 dc39 pm39 an39 cd39 ct39), sl39⟩)
    (h125 : K.lookup f40 = some ⟨oc40, od40, .func (PySem.W.fnOf "added_row" "added_row" (defArgs s_added_row) (defBody s_added_row) (defScope s_added_row) .none kV40 dc40 pm40 an40 cd40 ct40), sl40⟩)
    (h129 : K.lookup f41 = some ⟨oc41, od41, .func (PySem.W.fnOf "ways_of_entry" "ways_of_entry" (defArgs s_ways_of_entry) (defBody s_ways_of_entry) (defScope s_ways_of_entry) .none kV41 dc41 pm41 an41 cd41 ct41), sl41⟩)
    (h133 : K.lookup f42 = some ⟨oc42, od42, .func (PySem.W.fnOf "first_of_entry" "first_of_entry" (defArgs s_first_of_entry) (defBody s_first_of_entry) (defScope s_first_of_entry) .none kV42 dc42 pm42 an42 cd42 ct42), sl42⟩)
    (h137 : K.lookup f43 = some ⟨oc43, od43, .func (PySem.W.fnOf "entry_row" "entry_row" (defArgs s_entry_row) (defBody s_entry_row) (defScope s_entry_row) .none kV43 dc43 pm43 an43 cd43 ct43), sl43⟩)
    (h141 : K.lookup f44 = some ⟨oc44, od44, .func (PySem.W.fnOf "made_change" "made_change" (defArgs s_made_change) (defBody s_made_change) (defScope s_made_change) .none kV44 dc44 pm44 an44 cd44 ct44), sl44⟩)
    (h145 : K.lookup f45 = some ⟨oc45, od45, .func (PySem.W.fnOf "read_log" "read_log" (defArgs s_read_log) (defBody s_read_log) (defScope s_read_log) .none kV45 dc45 pm45 an45 cd45 ct45), sl45⟩)
    (h149 : K.lookup f46 = some ⟨oc46, od46, .func (PySem.W.fnOf "_law_source" "_law_source" (defArgs s__law_source) (defBody s__law_source) (defScope s__law_source) .none kV46 dc46 pm46 an46 cd46 ct46), sl46⟩)
    (h153 : K.lookup f47 = some ⟨oc47, od47, .func (PySem.W.fnOf "_law_next" "_law_next" (defArgs s__law_next) (defBody s__law_next) (defScope s__law_next) .none kV47 dc47 pm47 an47 cd47 ct47), sl47⟩)
    (h157 : K.lookup f48 = some ⟨oc48, od48, .func (PySem.W.fnOf "_law_pick" "_law_pick" (defArgs s__law_pick) (defBody s__law_pick) (defScope s__law_pick) .none kV48 dc48 pm48 an48 cd48 ct48), sl48⟩)
    (h161 : K.lookup f49 = some ⟨oc49, od49, .func (PySem.W.fnOf "_law_one_in" "_law_one_in" (defArgs s__law_one_in) (defBody s__law_one_in) (defScope s__law_one_in) .none kV49 dc49 pm49 an49 cd49 ct49), sl49⟩)
    (h165 : K.lookup f50 = some ⟨oc50, od50, .func (PySem.W.fnOf "_law_one_of" "_law_one_of" (defArgs s__law_one_of) (defBody s__law_one_of) (defScope s__law_one_of) .none kV50 dc50 pm50 an50 cd50 ct50), sl50⟩)
    (h169 : K.lookup f51 = some ⟨oc51, od51, .func (PySem.W.fnOf "_law_letter" "_law_letter" (defArgs s__law_letter) (defBody s__law_letter) (defScope s__law_letter) .none kV51 dc51 pm51 an51 cd51 ct51), sl51⟩)
    (h173 : K.lookup f52 = some ⟨oc52, od52, .func (PySem.W.fnOf "_law_word" "_law_word" (defArgs s__law_word) (defBody s__law_word) (defScope s__law_word) .none kV52 dc52 pm52 an52 cd52 ct52), sl52⟩)
    (h177 : K.lookup f53 = some ⟨oc53, od53, .func (PySem.W.fnOf "_law_words" "_law_words" (defArgs s__law_words) (defBody s__law_words) (defScope s__law_words) .none kV53 dc53 pm53 an53 cd53 ct53), sl53⟩)
    (h181 : K.lookup f54 = some ⟨oc54, od54, .func (PySem.W.fnOf "_law_lists" "_law_lists" (defArgs s__law_lists) (defBody s__law_lists) (defScope s__law_lists) .none kV54 dc54 pm54 an54 cd54 ct54), sl54⟩)
    (h185 : K.lookup f55 = some ⟨oc55, od55, .func (PySem.W.fnOf "_law_same" "_law_same" (defArgs s__law_same) (defBody s__law_same) (defScope s__law_same) .none kV55 dc55 pm55 an55 cd55 ct55), sl55⟩)
    (h189 : K.lookup f56 = some ⟨oc56, od56, .func (PySem.W.fnOf "_law_change" "_law_change" (defArgs s__law_change) (defBody s__law_change) (defScope s__law_change) .none kV56 dc56 pm56 an56 cd56 ct56), sl56⟩)
    (h193 : K.lookup f57 = some ⟨oc57, od57, .func (PySem.W.fnOf "_law_wide_way" "_law_wide_way" (defArgs s__law_wide_way) (defBody s__law_wide_way) (defScope s__law_wide_way) .none kV57 dc57 pm57 an57 cd57 ct57), sl57⟩)
    (h197 : K.lookup f58 = some ⟨oc58, od58, .func (PySem.W.fnOf "_law_wide_reach" "_law_wide_reach" (defArgs s__law_wide_reach) (defBody s__law_wide_reach) (defScope s__law_wide_reach) .none kV58 dc58 pm58 an58 cd58 ct58), sl58⟩)
    (h201 : K.lookup f59 = some ⟨oc59, od59, .func (PySem.W.fnOf "_law_wide_term" "_law_wide_term" (defArgs s__law_wide_term) (defBody s__law_wide_term) (defScope s__law_wide_term) .none kV59 dc59 pm59 an59 cd59 ct59), sl59⟩)
    (h205 : K.lookup f60 = some ⟨oc60, od60, .func (PySem.W.fnOf "_law_free_way" "_law_free_way" (defArgs s__law_free_way) (defBody s__law_free_way) (defScope s__law_free_way) .none kV60 dc60 pm60 an60 cd60 ct60), sl60⟩)
    (h209 : K.lookup f61 = some ⟨oc61, od61, .func (PySem.W.fnOf "_law_wide_change" "_law_wide_change" (defArgs s__law_wide_change) (defBody s__law_wide_change) (defScope s__law_wide_change) .none kV61 dc61 pm61 an61 cd61 ct61), sl61⟩)
    (h213 : K.lookup f62 = some ⟨oc62, od62, .func (PySem.W.fnOf "_law_line" "_law_line" (defArgs s__law_line) (defBody s__law_line) (defScope s__law_line) .none kV62 dc62 pm62 an62 cd62 ct62), sl62⟩)
    (h217 : K.lookup f63 = some ⟨oc63, od63, .func (PySem.W.fnOf "_law_term_lines" "_law_term_lines" (defArgs s__law_term_lines) (defBody s__law_term_lines) (defScope s__law_term_lines) .none kV63 dc63 pm63 an63 cd63 ct63), sl63⟩)
    (h221 : K.lookup f64 = some ⟨oc64, od64, .func (PySem.W.fnOf "_law_entry_lines" "_law_entry_lines" (defArgs s__law_entry_lines) (defBody s__law_entry_lines) (defScope s__law_entry_lines) .none kV64 dc64 pm64 an64 cd64 ct64), sl64⟩)
    (h225 : K.lookup f65 = some ⟨oc65, od65, .func (PySem.W.fnOf "_law_log_lines" "_law_log_lines" (defArgs s__law_log_lines) (defBody s__law_log_lines) (defScope s__law_log_lines) .none kV65 dc65 pm65 an65 cd65 ct65), sl65⟩)
    (h229 : K.lookup f66 = some ⟨oc66, od66, .func (PySem.W.fnOf "_law_told_term" "_law_told_term" (defArgs s__law_told_term) (defBody s__law_told_term) (defScope s__law_told_term) .none kV66 dc66 pm66 an66 cd66 ct66), sl66⟩)
    (h233 : K.lookup f67 = some ⟨oc67, od67, .func (PySem.W.fnOf "_law_told_change" "_law_told_change" (defArgs s__law_told_change) (defBody s__law_told_change) (defScope s__law_told_change) .none kV67 dc67 pm67 an67 cd67 ct67), sl67⟩)
    (h237 : K.lookup f68 = some ⟨oc68, od68, .func (PySem.W.fnOf "_law_told_changes" "_law_told_changes" (defArgs s__law_told_changes) (defBody s__law_told_changes) (defScope s__law_told_changes) .none kV68 dc68 pm68 an68 cd68 ct68), sl68⟩)
    (h241 : K.lookup f70 = some ⟨oc70, od70, .func (PySem.W.fnOf "_law_made" "_law_made" (defArgs s__law_made) (defBody s__law_made) (defScope s__law_made) .none kV70 dc70 pm70 an70 cd70 ct70), sl70⟩)
    (h245 : K.lookup f14 = some ⟨oc14, od14, .func (PySem.W.fnOf "__eq__" "Term.__eq__" (defArgs s_Term___eq__) (defBody s_Term___eq__) (defScope s_Term___eq__) .none kV14 dc14 pm14 an14 cd14 ct14), sl14⟩)
    (h248 : K.lookup f69 = some ⟨oc69, od69, .func (PySem.W.fnOf "_law_there_and_back" "_law_there_and_back" (defArgs s__law_there_and_back) (defBody s__law_there_and_back) (defScope s__law_there_and_back) .none kV69 dc69 pm69 an69 cd69 ct69), sl69⟩)
    (h252 : K.lookup f71 = some ⟨oc71, od71, .func (PySem.W.fnOf "law" "law" (defArgs s_law) (defBody s_law) (defScope s_law) .none kV71 dc71 pm71 an71 cd71 ct71), sl71⟩)
    (h41 : PySem.W.nsIn K kD11 "scope" = some (some (.ref dT11)))
    (h42 : PySem.W.nsIn K kD11 "first" = some (some .none))
    (h43 : PySem.W.nsIn K kD11 "turn" = some (some .none))
    (h1 : PySem.W.codeIn K cd1 "BadTerm.__init__" = true)
    (h2 : PySem.W.keepIn K (.ref f1) = true)
    (h4 : PySem.W.codeIn K cd2 "BadLine.__init__" = true)
    (h5 : PySem.W.keepIn K (.ref f2) = true)
    (h7 : PySem.W.codeIn K cd3 "deep" = true)
    (h8 : PySem.W.keepIn K (.ref f3) = true)
    (h11 : PySem.W.codeIn K cd4 "is_word" = true)
    (h12 : PySem.W.keepIn K (.ref f4) = true)
    (h15 : PySem.W.codeIn K cd5 "is_note" = true)
    (h16 : PySem.W.keepIn K (.ref f5) = true)
    (h19 : PySem.W.codeIn K cd6 "is_token" = true)
    (h20 : PySem.W.keepIn K (.ref f6) = true)
    (h23 : PySem.W.codeIn K cd7 "is_pattern" = true)
    (h24 : PySem.W.keepIn K (.ref f7) = true)
    (h27 : PySem.W.codeIn K cd8 "are_items" = true)
    (h28 : PySem.W.keepIn K (.ref f8) = true)
    (h31 : PySem.W.codeIn K cd9 "is_way" = true)
    (h32 : PySem.W.keepIn K (.ref f9) = true)
    (h35 : PySem.W.codeIn K cd10 "is_scope" = true)
    (h36 : PySem.W.keepIn K (.ref f10) = true)
    (h39 : PySem.W.codeIn K cd11 "Term.__init__" = true)
    (h40 : PySem.W.keepIn K (.ref f11) = true)
    (h45 : PySem.W.codeIn K cd15 "keyed_term" = true)
    (h46 : PySem.W.keepIn K (.ref f15) = true)
    (h49 : PySem.W.codeIn K cd16 "Lines.__init__" = true)
    (h50 : PySem.W.keepIn K (.ref f16) = true)
    (h52 : PySem.W.codeIn K cd17 "Lines.line_number" = true)
    (h53 : PySem.W.keepIn K (.ref f17) = true)
    (h55 : PySem.W.codeIn K cd18 "Lines.line_words" = true)
    (h56 : PySem.W.keepIn K (.ref f18) = true)
    (h58 : PySem.W.codeIn K cd19 "Lines.first_word" = true)
    (h59 : PySem.W.keepIn K (.ref f19) = true)
    (h61 : PySem.W.codeIn K cd20 "Lines.many_words" = true)
    (h62 : PySem.W.keepIn K (.ref f20) = true)
    (h64 : PySem.W.codeIn K cd21 "Lines.word_at" = true)
    (h65 : PySem.W.keepIn K (.ref f21) = true)
    (h67 : PySem.W.codeIn K cd23 "Lines.fail_at" = true)
    (h68 : PySem.W.keepIn K (.ref f23) = true)
    (h70 : PySem.W.codeIn K cd24 "Lines.name_at" = true)
    (h71 : PySem.W.keepIn K (.ref f24) = true)
    (h73 : PySem.W.codeIn K cd25 "Lines.item_at" = true)
    (h74 : PySem.W.keepIn K (.ref f25) = true)
    (h76 : PySem.W.codeIn K cd27 "Lines.want_word" = true)
    (h77 : PySem.W.keepIn K (.ref f27) = true)
    (h79 : PySem.W.codeIn K cd28 "Lines.close_at" = true)
    (h80 : PySem.W.keepIn K (.ref f28) = true)
    (h82 : PySem.W.codeIn K cd29 "line_of" = true)
    (h83 : PySem.W.keepIn K (.ref f29) = true)
    (h86 : PySem.W.codeIn K cd30 "write_term" = true)
    (h87 : PySem.W.keepIn K (.ref f30) = true)
    (h90 : PySem.W.codeIn K cd31 "items_from" = true)
    (h91 : PySem.W.keepIn K (.ref f31) = true)
    (h94 : PySem.W.codeIn K cd32 "way_rows" = true)
    (h95 : PySem.W.keepIn K (.ref f32) = true)
    (h98 : PySem.W.codeIn K cd33 "scope_row" = true)
    (h99 : PySem.W.keepIn K (.ref f33) = true)
    (h102 : PySem.W.codeIn K cd34 "end_line" = true)
    (h103 : PySem.W.keepIn K (.ref f34) = true)
    (h106 : PySem.W.codeIn K cd35 "term_row" = true)
    (h107 : PySem.W.keepIn K (.ref f35) = true)
    (h110 : PySem.W.codeIn K cd36 "made_term" = true)
    (h111 : PySem.W.keepIn K (.ref f36) = true)
    (h114 : PySem.W.codeIn K cd37 "entry_lines" = true)
    (h115 : PySem.W.keepIn K (.ref f37) = true)
    (h118 : PySem.W.codeIn K cd38 "write_log" = true)
    (h119 : PySem.W.keepIn K (.ref f38) = true)
    (h122 : PySem.W.codeIn K cd39 "name_line" = true)
    (h123 : PySem.W.keepIn K (.ref f39) = true)
    (h126 : PySem.W.codeIn K cd40 "added_row" = true)
    (h127 : PySem.W.keepIn K (.ref f40) = true)
    (h130 : PySem.W.codeIn K cd41 "ways_of_entry" = true)
    (h131 : PySem.W.keepIn K (.ref f41) = true)
    (h134 : PySem.W.codeIn K cd42 "first_of_entry" = true)
    (h135 : PySem.W.keepIn K (.ref f42) = true)
    (h138 : PySem.W.codeIn K cd43 "entry_row" = true)
    (h139 : PySem.W.keepIn K (.ref f43) = true)
    (h142 : PySem.W.codeIn K cd44 "made_change" = true)
    (h143 : PySem.W.keepIn K (.ref f44) = true)
    (h146 : PySem.W.codeIn K cd45 "read_log" = true)
    (h147 : PySem.W.keepIn K (.ref f45) = true)
    (h150 : PySem.W.codeIn K cd46 "_law_source" = true)
    (h151 : PySem.W.keepIn K (.ref f46) = true)
    (h154 : PySem.W.codeIn K cd47 "_law_next" = true)
    (h155 : PySem.W.keepIn K (.ref f47) = true)
    (h158 : PySem.W.codeIn K cd48 "_law_pick" = true)
    (h159 : PySem.W.keepIn K (.ref f48) = true)
    (h162 : PySem.W.codeIn K cd49 "_law_one_in" = true)
    (h163 : PySem.W.keepIn K (.ref f49) = true)
    (h166 : PySem.W.codeIn K cd50 "_law_one_of" = true)
    (h167 : PySem.W.keepIn K (.ref f50) = true)
    (h170 : PySem.W.codeIn K cd51 "_law_letter" = true)
    (h171 : PySem.W.keepIn K (.ref f51) = true)
    (h174 : PySem.W.codeIn K cd52 "_law_word" = true)
    (h175 : PySem.W.keepIn K (.ref f52) = true)
    (h178 : PySem.W.codeIn K cd53 "_law_words" = true)
    (h179 : PySem.W.keepIn K (.ref f53) = true)
    (h182 : PySem.W.codeIn K cd54 "_law_lists" = true)
    (h183 : PySem.W.keepIn K (.ref f54) = true)
    (h186 : PySem.W.codeIn K cd55 "_law_same" = true)
    (h187 : PySem.W.keepIn K (.ref f55) = true)
    (h190 : PySem.W.codeIn K cd56 "_law_change" = true)
    (h191 : PySem.W.keepIn K (.ref f56) = true)
    (h194 : PySem.W.codeIn K cd57 "_law_wide_way" = true)
    (h195 : PySem.W.keepIn K (.ref f57) = true)
    (h198 : PySem.W.codeIn K cd58 "_law_wide_reach" = true)
    (h199 : PySem.W.keepIn K (.ref f58) = true)
    (h202 : PySem.W.codeIn K cd59 "_law_wide_term" = true)
    (h203 : PySem.W.keepIn K (.ref f59) = true)
    (h206 : PySem.W.codeIn K cd60 "_law_free_way" = true)
    (h207 : PySem.W.keepIn K (.ref f60) = true)
    (h210 : PySem.W.codeIn K cd61 "_law_wide_change" = true)
    (h211 : PySem.W.keepIn K (.ref f61) = true)
    (h214 : PySem.W.codeIn K cd62 "_law_line" = true)
    (h215 : PySem.W.keepIn K (.ref f62) = true)
    (h218 : PySem.W.codeIn K cd63 "_law_term_lines" = true)
    (h219 : PySem.W.keepIn K (.ref f63) = true)
    (h222 : PySem.W.codeIn K cd64 "_law_entry_lines" = true)
    (h223 : PySem.W.keepIn K (.ref f64) = true)
    (h226 : PySem.W.codeIn K cd65 "_law_log_lines" = true)
    (h227 : PySem.W.keepIn K (.ref f65) = true)
    (h230 : PySem.W.codeIn K cd66 "_law_told_term" = true)
    (h231 : PySem.W.keepIn K (.ref f66) = true)
    (h234 : PySem.W.codeIn K cd67 "_law_told_change" = true)
    (h235 : PySem.W.keepIn K (.ref f67) = true)
    (h238 : PySem.W.codeIn K cd68 "_law_told_changes" = true)
    (h239 : PySem.W.keepIn K (.ref f68) = true)
    (h242 : PySem.W.codeIn K cd70 "_law_made" = true)
    (h243 : PySem.W.keepIn K (.ref f70) = true)
    (h246 : PySem.W.codeIn K cd14 "Term.__eq__" = true)
    (h247 : PySem.W.keepIn K (.ref f14) = true)
    (h249 : PySem.W.codeIn K cd69 "_law_there_and_back" = true)
    (h250 : PySem.W.keepIn K (.ref f69) = true)
    (h253 : PySem.W.codeIn K cd71 "law" = true)
    (h254 : PySem.W.keepIn K (.ref f71) = true)
    (h256 : PySem.W.subIn K (.ref C3) (.type "tuple") = some false)
    (h257 : PySem.W.subIn K (.ref C3) (.type "list") = some false)
    (h258 : PySem.W.subIn K (.ref C3) (.type "str") = some false)
    (h264 : PySem.W.subIn K (.ref C3) (.type "bool") = some false)
    (h265 : PySem.W.subIn K (.ref C3) (.type "int") = some false)
    (h266 : PySem.W.nsIn K mainGlobals "isinstance" = some none)
    (h267 : PySem.W.nsIn K mainGlobals "tuple" = some none)
    (h268 : PySem.W.nsIn K mainGlobals "list" = some none)
    (h269 : PySem.W.nsIn K mainGlobals "str" = some none)
    (h270 : PySem.W.nsIn K mainGlobals "len" = some none)
    (h271 : PySem.W.nsIn K mainGlobals "enumerate" = some none)
    (h272 : PySem.W.nsIn K mainGlobals "all" = some none)
    (h273 : PySem.W.nsIn K mainGlobals "sum" = some none)
    (h274 : PySem.W.nsIn K mainGlobals "int" = some none)
    (h275 : PySem.W.nsIn K mainGlobals "abs" = some none)
    (h276 : PySem.W.nsIn K mainGlobals "range" = some none)
    (h277 : PySem.W.nsIn K mainGlobals "bool" = some none)
    (h279 : PySem.W.readsIn K C0 (.type "type") = true)
    (h280 : PySem.W.findCls K (.ref C0) (.type "type") "__init__" = some (.val (.builtin "ValueError.__init__")))
    (h281 : PySem.W.specialIn K (.ref C0) "__getattribute__" = some (some (.builtin "type.__getattribute__")))
    (h284 : PySem.W.findIn K (.ref C1) "__setattr__" = some (some (.builtin "object.__setattr__")))
    (h285 : PySem.W.subIn K (.ref C1) (.type "BaseException") = some true)
    (h286 : PySem.W.typeIn K (.ref C1) = some (.type "type"))
    (h287 : PySem.W.keepIn K (.ref C1) = true)
    (h289 : PySem.W.typeIn K (.ref f1) = some (.type "function"))
    (h290 : PySem.W.findIn K (.ref C1) "word" = some none)
    (h293 : PySem.W.findIn K (.ref C2) "__setattr__" = some (some (.builtin "object.__setattr__")))
    (h294 : PySem.W.subIn K (.ref C2) (.type "BaseException") = some true)
    (h295 : PySem.W.typeIn K (.ref C2) = some (.type "type"))
    (h296 : PySem.W.keepIn K (.ref C2) = true)
    (h298 : PySem.W.typeIn K (.ref f2) = some (.type "function"))
    (h299 : PySem.W.findIn K (.ref C2) "line" = some none)
    (h300 : PySem.W.findIn K (.ref C2) "word" = some none)
    (h302 : PySem.W.plainGet K C3 Str.empty = true)
    (h303 : PySem.W.hasDictIn K C3 = true)
    (h304 : PySem.W.plainOver K C3 = true)
    (h305 : PySem.W.findIn K (.ref C3) "__setattr__" = some (some (.builtin "object.__setattr__")))
    (h306 : PySem.W.findIn K (.ref C3) "__class__" = some (some (.builtin "object.__class__")))
    (h307 : PySem.W.specialIn K (.builtin "object.__class__") "__get__" = some (some (.builtin "getset_descriptor.__get__")))
    (h308 : PySem.W.takesIn K (.builtin "object.__class__") = some true)
    (h309 : PySem.W.mroIn K C3 (.type "object") = some true)
    (h310 : PySem.W.subIn K (.type "NoneType") (.ref C3) = some false)
    (h311 : PySem.W.subIn K (.type "bool") (.ref C3) = some false)
    (h312 : PySem.W.subIn K (.type "int") (.ref C3) = some false)
    (h313 : PySem.W.subIn K (.type "str") (.ref C3) = some false)
    (h314 : PySem.W.subIn K (.type "tuple") (.ref C3) = some false)
    (h315 : PySem.W.subIn K (.type "list") (.ref C3) = some false)
    (h316 : PySem.W.subIn K (.type "dict") (.ref C3) = some false)
    (h317 : PySem.W.isClsIn K C3 = true)
    (h318 : PySem.W.typeIn K (.ref C3) = some (.type "type"))
    (h319 : PySem.W.findIn K (.ref C3) "name" = some none)
    (h320 : PySem.W.findIn K (.ref C3) "pattern" = some none)
    (h321 : PySem.W.findIn K (.ref C3) "ways" = some none)
    (h322 : PySem.W.findIn K (.ref C3) "scope" = some none)
    (h323 : PySem.W.findIn K (.ref C3) "first" = some none)
    (h324 : PySem.W.findIn K (.ref C3) "turn" = some none)
    (h325 : PySem.W.makesIn K C3 = true)
    (h327 : PySem.W.isFn K (.ref f11) = true)
    (h328 : PySem.W.keepIn K (.ref C3) = true)
    (h330 : PySem.W.isFn K (.ref f14) = true)
    (h332 : PySem.W.plainGet K C4 Str.empty = true)
    (h333 : PySem.W.hasDictIn K C4 = true)
    (h334 : PySem.W.plainOver K C4 = true)
    (h335 : PySem.W.findIn K (.ref C4) "__setattr__" = some (some (.builtin "object.__setattr__")))
    (h336 : PySem.W.findIn K (.ref C4) "__class__" = some (some (.builtin "object.__class__")))
    (h337 : PySem.W.mroIn K C4 (.type "object") = some true)
    (h338 : PySem.W.subIn K (.type "NoneType") (.ref C4) = some false)
    (h339 : PySem.W.subIn K (.type "bool") (.ref C4) = some false)
    (h340 : PySem.W.subIn K (.type "int") (.ref C4) = some false)
    (h341 : PySem.W.subIn K (.type "str") (.ref C4) = some false)
    (h342 : PySem.W.subIn K (.type "tuple") (.ref C4) = some false)
    (h343 : PySem.W.subIn K (.type "list") (.ref C4) = some false)
    (h344 : PySem.W.subIn K (.type "dict") (.ref C4) = some false)
    (h345 : PySem.W.isClsIn K C4 = true)
    (h346 : PySem.W.typeIn K (.ref C4) = some (.type "type"))
    (h347 : PySem.W.findIn K (.ref C4) "texts" = some none)
    (h348 : PySem.W.findIn K (.ref C4) "place" = some none)
    (h349 : PySem.W.makesIn K C4 = true)
    (h351 : PySem.W.isFn K (.ref f16) = true)
    (h352 : PySem.W.keepIn K (.ref C4) = true)
    (h354 : PySem.W.isFn K (.ref f17) = true)
    (h356 : PySem.W.isFn K (.ref f18) = true)
    (h358 : PySem.W.isFn K (.ref f19) = true)
    (h360 : PySem.W.isFn K (.ref f20) = true)
    (h362 : PySem.W.isFn K (.ref f21) = true)
    (h364 : PySem.W.isFn K (.ref f23) = true)
    (h366 : PySem.W.isFn K (.ref f24) = true)
    (h368 : PySem.W.isFn K (.ref f25) = true)
    (h370 : PySem.W.isFn K (.ref f27) = true)
    (h372 : PySem.W.isFn K (.ref f28) = true)
    : ∃ fd : FuncData, (∀ (s : Shared) (u : Value), BindsTo s fd ⟨[u], []⟩ [("script", u)]) ∧ ∀ base : Heap, K.In base → base.Ns mainGlobals mg → ∃ cl : Nat → Addr, FnOk l.prog w K mg base (L2N.CX l.prog w) 16 fl fd ["script"] (spP K cl 1 f_law) := by
  have e := hfa.symm.trans (PySem.W.mg_of X G h255)
  cases e
  obtain ⟨d1, F1, b1⟩ : ∃ fd, Fun K "__init__" "BadTerm.__init__" s_BadTerm___init__ f1 fd ∧ Binds K fd ["self", "word"] [] := by
    have F1 := fun_mk (st := s_BadTerm___init__) h0 h1 h2
    exact ⟨_, F1, F1.binds (ps := ["self", "word"]) fun _ _ _ _ _ _ us hl => match us, hl with | [_, _], _ => rfl⟩
  obtain ⟨d2, F2, b2⟩ : ∃ fd, Fun K "__init__" "BadLine.__init__" s_BadLine___init__ f2 fd ∧ Binds K fd ["self", "line", "word"] [] := by
    have F2 := fun_mk (st := s_BadLine___init__) h3 h4 h5
    exact ⟨_, F2, F2.binds (ps := ["self", "line", "word"]) fun _ _ _ _ _ _ us hl => match us, hl with | [_, _, _], _ => rfl⟩
  obtain ⟨d3, F3, b3⟩ : ∃ fd, Fun K "deep" "deep" s_deep f3 fd ∧ Binds K fd ["thing"] [] := by
    have F3 := fun_mk (st := s_deep) h6 h7 h8
    exact ⟨_, F3, F3.binds (ps := ["thing"]) fun _ _ _ _ _ _ us hl => match us, hl with | [_], _ => rfl⟩
  obtain ⟨d4, F4, b4⟩ : ∃ fd, Fun K "is_word" "is_word" s_is_word f4 fd ∧ Binds K fd ["thing"] [] := by
    have F4 := fun_mk (st := s_is_word) h10 h11 h12
    exact ⟨_, F4, F4.binds (ps := ["thing"]) fun _ _ _ _ _ _ us hl => match us, hl with | [_], _ => rfl⟩
  obtain ⟨d5, F5, b5⟩ : ∃ fd, Fun K "is_note" "is_note" s_is_note f5 fd ∧ Binds K fd ["thing"] [] := by
    have F5 := fun_mk (st := s_is_note) h14 h15 h16
    exact ⟨_, F5, F5.binds (ps := ["thing"]) fun _ _ _ _ _ _ us hl => match us, hl with | [_], _ => rfl⟩
  obtain ⟨d6, F6, b6⟩ : ∃ fd, Fun K "is_token" "is_token" s_is_token f6 fd ∧ Binds K fd ["thing"] [] := by
    have F6 := fun_mk (st := s_is_token) h18 h19 h20
    exact ⟨_, F6, F6.binds (ps := ["thing"]) fun _ _ _ _ _ _ us hl => match us, hl with | [_], _ => rfl⟩
  obtain ⟨d7, F7, b7⟩ : ∃ fd, Fun K "is_pattern" "is_pattern" s_is_pattern f7 fd ∧ Binds K fd ["thing"] [] := by
    have F7 := fun_mk (st := s_is_pattern) h22 h23 h24
    exact ⟨_, F7, F7.binds (ps := ["thing"]) fun _ _ _ _ _ _ us hl => match us, hl with | [_], _ => rfl⟩
  obtain ⟨d8, F8, b8⟩ : ∃ fd, Fun K "are_items" "are_items" s_are_items f8 fd ∧ Binds K fd ["thing"] [] := by
    have F8 := fun_mk (st := s_are_items) h26 h27 h28
    exact ⟨_, F8, F8.binds (ps := ["thing"]) fun _ _ _ _ _ _ us hl => match us, hl with | [_], _ => rfl⟩
  obtain ⟨d9, F9, b9⟩ : ∃ fd, Fun K "is_way" "is_way" s_is_way f9 fd ∧ Binds K fd ["thing", "gap"] [] := by
    have F9 := fun_mk (st := s_is_way) h30 h31 h32
    exact ⟨_, F9, F9.binds (ps := ["thing", "gap"]) fun _ _ _ _ _ _ us hl => match us, hl with | [_, _], _ => rfl⟩
  obtain ⟨d10, F10, b10⟩ : ∃ fd, Fun K "is_scope" "is_scope" s_is_scope f10 fd ∧ Binds K fd ["thing"] [] := by
    have F10 := fun_mk (st := s_is_scope) h34 h35 h36
    exact ⟨_, F10, F10.binds (ps := ["thing"]) fun _ _ _ _ _ _ us hl => match us, hl with | [_], _ => rfl⟩
  obtain ⟨d11, F11, kb11⟩ : ∃ fd, FunD K "__init__" "Term.__init__" (defArgs s_Term___init__) (defBody s_Term___init__) (defScope s_Term___init__) [] [("scope", .ref dT11), ("first", .non), ("turn", .non)] f11 fd ∧ KBn K fd ["self", "name", "pattern", "ways", "scope", "first", "turn"] 4 ["scope", "first", "turn"] (fun us ws => us ++ ws) (fun vs zs => vs ++ zs) := by
    have F : FunD K "__init__" "Term.__init__" (defArgs s_Term___init__) (defBody s_Term___init__) (defScope s_Term___init__) [] [("scope", .ref dT11), ("first", .non), ("turn", .non)] f11 _ := ⟨⟨oc11, od11, .none, .ref kD11, dc11, pm11, an11, cd11, ct11, sl11, rfl, h38, h39, .inl ⟨rfl, rfl⟩, .inr ⟨kD11, rfl, by
      intro q hq
      simp only [List.mem_cons, List.not_mem_nil, or_false] at hq
      rcases hq with rfl | rfl | rfl
      · exact ⟨_, h41, rfl⟩
      · exact ⟨_, h42, rfl⟩
      · exact ⟨_, h43, rfl⟩⟩⟩, h40⟩
    refine ⟨_, F, ?_⟩
    obtain ⟨mv, hk⟩ := F.kbinds0 (ps := ["self", "name", "pattern", "ways", "scope", "first", "turn"]) 4 ["scope", "first", "turn"] [] (fun us mv ws => us ++ ws) (by simp) (by simp) (fun r1 r2 r3 => r1.append r3) (fun D doc pm an cdv ct us mv ws l1 l2 l3 => match us, mv, ws, l1, l2, l3 with | [_, _, _, _], [], [_, _, _], _, _, _ => rfl)
    exact hk
  obtain ⟨d15, F15, b15⟩ : ∃ fd, Fun K "keyed_term" "keyed_term" s_keyed_term f15 fd ∧ Binds K fd ["term"] [] := by
    have F15 := fun_mk (st := s_keyed_term) h44 h45 h46
    exact ⟨_, F15, F15.binds (ps := ["term"]) fun _ _ _ _ _ _ us hl => match us, hl with | [_], _ => rfl⟩
  obtain ⟨d16, F16, b16⟩ : ∃ fd, Fun K "__init__" "Lines.__init__" s_Lines___init__ f16 fd ∧ Binds K fd ["self", "texts"] [] := by
    have F16 := fun_mk (st := s_Lines___init__) h48 h49 h50
    exact ⟨_, F16, F16.binds (ps := ["self", "texts"]) fun _ _ _ _ _ _ us hl => match us, hl with | [_, _], _ => rfl⟩
  obtain ⟨d17, F17, b17⟩ : ∃ fd, Fun K "line_number" "Lines.line_number" s_Lines_line_number f17 fd ∧ Binds K fd ["self"] [] := by
    have F17 := fun_mk (st := s_Lines_line_number) h51 h52 h53
    exact ⟨_, F17, F17.binds (ps := ["self"]) fun _ _ _ _ _ _ us hl => match us, hl with | [_], _ => rfl⟩
  obtain ⟨d18, F18, b18⟩ : ∃ fd, Fun K "line_words" "Lines.line_words" s_Lines_line_words f18 fd ∧ Binds K fd ["self"] [] := by
    have F18 := fun_mk (st := s_Lines_line_words) h54 h55 h56
    exact ⟨_, F18, F18.binds (ps := ["self"]) fun _ _ _ _ _ _ us hl => match us, hl with | [_], _ => rfl⟩
  obtain ⟨d19, F19, b19⟩ : ∃ fd, Fun K "first_word" "Lines.first_word" s_Lines_first_word f19 fd ∧ Binds K fd ["self"] [] := by
    have F19 := fun_mk (st := s_Lines_first_word) h57 h58 h59
    exact ⟨_, F19, F19.binds (ps := ["self"]) fun _ _ _ _ _ _ us hl => match us, hl with | [_], _ => rfl⟩
  obtain ⟨d20, F20, b20⟩ : ∃ fd, Fun K "many_words" "Lines.many_words" s_Lines_many_words f20 fd ∧ Binds K fd ["self"] [] := by
    have F20 := fun_mk (st := s_Lines_many_words) h60 h61 h62
    exact ⟨_, F20, F20.binds (ps := ["self"]) fun _ _ _ _ _ _ us hl => match us, hl with | [_], _ => rfl⟩
  obtain ⟨d21, F21, b21⟩ : ∃ fd, Fun K "word_at" "Lines.word_at" s_Lines_word_at f21 fd ∧ Binds K fd ["self", "k"] [] := by
    have F21 := fun_mk (st := s_Lines_word_at) h63 h64 h65
    exact ⟨_, F21, F21.binds (ps := ["self", "k"]) fun _ _ _ _ _ _ us hl => match us, hl with | [_, _], _ => rfl⟩
  obtain ⟨d23, F23, b23⟩ : ∃ fd, Fun K "fail_at" "Lines.fail_at" s_Lines_fail_at f23 fd ∧ Binds K fd ["self", "k"] [] := by
    have F23 := fun_mk (st := s_Lines_fail_at) h66 h67 h68
    exact ⟨_, F23, F23.binds (ps := ["self", "k"]) fun _ _ _ _ _ _ us hl => match us, hl with | [_, _], _ => rfl⟩
  obtain ⟨d24, F24, b24⟩ : ∃ fd, Fun K "name_at" "Lines.name_at" s_Lines_name_at f24 fd ∧ Binds K fd ["self", "k"] [] := by
    have F24 := fun_mk (st := s_Lines_name_at) h69 h70 h71
    exact ⟨_, F24, F24.binds (ps := ["self", "k"]) fun _ _ _ _ _ _ us hl => match us, hl with | [_, _], _ => rfl⟩
  obtain ⟨d25, F25, b25⟩ : ∃ fd, Fun K "item_at" "Lines.item_at" s_Lines_item_at f25 fd ∧ Binds K fd ["self", "k", "notes"] [] := by
    have F25 := fun_mk (st := s_Lines_item_at) h72 h73 h74
    exact ⟨_, F25, F25.binds (ps := ["self", "k", "notes"]) fun _ _ _ _ _ _ us hl => match us, hl with | [_, _, _], _ => rfl⟩
  obtain ⟨d27, F27, b27⟩ : ∃ fd, Fun K "want_word" "Lines.want_word" s_Lines_want_word f27 fd ∧ Binds K fd ["self", "word"] [] := by
    have F27 := fun_mk (st := s_Lines_want_word) h75 h76 h77
    exact ⟨_, F27, F27.binds (ps := ["self", "word"]) fun _ _ _ _ _ _ us hl => match us, hl with | [_, _], _ => rfl⟩
  obtain ⟨d28, F28, b28⟩ : ∃ fd, Fun K "close_at" "Lines.close_at" s_Lines_close_at f28 fd ∧ Binds K fd ["self", "k"] [] := by
    have F28 := fun_mk (st := s_Lines_close_at) h78 h79 h80
    exact ⟨_, F28, F28.binds (ps := ["self", "k"]) fun _ _ _ _ _ _ us hl => match us, hl with | [_, _], _ => rfl⟩
  obtain ⟨d29, F29, b29⟩ : ∃ fd, Fun K "line_of" "line_of" s_line_of f29 fd ∧ Binds K fd ["word", "row"] [] := by
    have F29 := fun_mk (st := s_line_of) h81 h82 h83
    exact ⟨_, F29, F29.binds (ps := ["word", "row"]) fun _ _ _ _ _ _ us hl => match us, hl with | [_, _], _ => rfl⟩
  obtain ⟨d30, F30, b30⟩ : ∃ fd, Fun K "write_term" "write_term" s_write_term f30 fd ∧ Binds K fd ["term"] [] := by
    have F30 := fun_mk (st := s_write_term) h85 h86 h87
    exact ⟨_, F30, F30.binds (ps := ["term"]) fun _ _ _ _ _ _ us hl => match us, hl with | [_], _ => rfl⟩
  obtain ⟨d31, F31, b31⟩ : ∃ fd, Fun K "items_from" "items_from" s_items_from f31 fd ∧ Binds K fd ["lines", "at", "least", "most", "notes"] [] := by
    have F31 := fun_mk (st := s_items_from) h89 h90 h91
    exact ⟨_, F31, F31.binds (ps := ["lines", "at", "least", "most", "notes"]) fun _ _ _ _ _ _ us hl => match us, hl with | [_, _, _, _, _], _ => rfl⟩
  obtain ⟨d32, F32, b32⟩ : ∃ fd, Fun K "way_rows" "way_rows" s_way_rows f32 fd ∧ Binds K fd ["lines"] [] := by
    have F32 := fun_mk (st := s_way_rows) h93 h94 h95
    exact ⟨_, F32, F32.binds (ps := ["lines"]) fun _ _ _ _ _ _ us hl => match us, hl with | [_], _ => rfl⟩
  obtain ⟨d33, F33, b33⟩ : ∃ fd, Fun K "scope_row" "scope_row" s_scope_row f33 fd ∧ Binds K fd ["lines", "at", "plain"] [] := by
    have F33 := fun_mk (st := s_scope_row) h97 h98 h99
    exact ⟨_, F33, F33.binds (ps := ["lines", "at", "plain"]) fun _ _ _ _ _ _ us hl => match us, hl with | [_, _, _], _ => rfl⟩
  obtain ⟨d34, F34, b34⟩ : ∃ fd, Fun K "end_line" "end_line" s_end_line f34 fd ∧ Binds K fd ["lines"] [] := by
    have F34 := fun_mk (st := s_end_line) h101 h102 h103
    exact ⟨_, F34, F34.binds (ps := ["lines"]) fun _ _ _ _ _ _ us hl => match us, hl with | [_], _ => rfl⟩
  obtain ⟨d35, F35, b35⟩ : ∃ fd, Fun K "term_row" "term_row" s_term_row f35 fd ∧ Binds K fd ["lines"] [] := by
    have F35 := fun_mk (st := s_term_row) h105 h106 h107
    exact ⟨_, F35, F35.binds (ps := ["lines"]) fun _ _ _ _ _ _ us hl => match us, hl with | [_], _ => rfl⟩
  obtain ⟨d36, F36, b36⟩ : ∃ fd, Fun K "made_term" "made_term" s_made_term f36 fd ∧ Binds K fd ["row"] [] := by
    have F36 := fun_mk (st := s_made_term) h109 h110 h111
    exact ⟨_, F36, F36.binds (ps := ["row"]) fun _ _ _ _ _ _ us hl => match us, hl with | [_], _ => rfl⟩
  obtain ⟨d37, F37, b37⟩ : ∃ fd, Fun K "entry_lines" "entry_lines" s_entry_lines f37 fd ∧ Binds K fd ["change"] [] := by
    have F37 := fun_mk (st := s_entry_lines) h113 h114 h115
    exact ⟨_, F37, F37.binds (ps := ["change"]) fun _ _ _ _ _ _ us hl => match us, hl with | [_], _ => rfl⟩
  obtain ⟨d38, F38, b38⟩ : ∃ fd, Fun K "write_log" "write_log" s_write_log f38 fd ∧ Binds K fd ["changes"] [] := by
    have F38 := fun_mk (st := s_write_log) h117 h118 h119
    exact ⟨_, F38, F38.binds (ps := ["changes"]) fun _ _ _ _ _ _ us hl => match us, hl with | [_], _ => rfl⟩
  obtain ⟨d39, F39, b39⟩ : ∃ fd, Fun K "name_line" "name_line" s_name_line f39 fd ∧ Binds K fd ["lines"] [] := by
    have F39 := fun_mk (st := s_name_line) h121 h122 h123
    exact ⟨_, F39, F39.binds (ps := ["lines"]) fun _ _ _ _ _ _ us hl => match us, hl with | [_], _ => rfl⟩
  obtain ⟨d40, F40, b40⟩ : ∃ fd, Fun K "added_row" "added_row" s_added_row f40 fd ∧ Binds K fd ["lines"] [] := by
    have F40 := fun_mk (st := s_added_row) h125 h126 h127
    exact ⟨_, F40, F40.binds (ps := ["lines"]) fun _ _ _ _ _ _ us hl => match us, hl with | [_], _ => rfl⟩
  obtain ⟨d41, F41, b41⟩ : ∃ fd, Fun K "ways_of_entry" "ways_of_entry" s_ways_of_entry f41 fd ∧ Binds K fd ["lines"] [] := by
    have F41 := fun_mk (st := s_ways_of_entry) h129 h130 h131
    exact ⟨_, F41, F41.binds (ps := ["lines"]) fun _ _ _ _ _ _ us hl => match us, hl with | [_], _ => rfl⟩
  obtain ⟨d42, F42, b42⟩ : ∃ fd, Fun K "first_of_entry" "first_of_entry" s_first_of_entry f42 fd ∧ Binds K fd ["lines"] [] := by
    have F42 := fun_mk (st := s_first_of_entry) h133 h134 h135
    exact ⟨_, F42, F42.binds (ps := ["lines"]) fun _ _ _ _ _ _ us hl => match us, hl with | [_], _ => rfl⟩
  obtain ⟨d43, F43, b43⟩ : ∃ fd, Fun K "entry_row" "entry_row" s_entry_row f43 fd ∧ Binds K fd ["lines"] [] := by
    have F43 := fun_mk (st := s_entry_row) h137 h138 h139
    exact ⟨_, F43, F43.binds (ps := ["lines"]) fun _ _ _ _ _ _ us hl => match us, hl with | [_], _ => rfl⟩
  obtain ⟨d44, F44, b44⟩ : ∃ fd, Fun K "made_change" "made_change" s_made_change f44 fd ∧ Binds K fd ["row"] [] := by
    have F44 := fun_mk (st := s_made_change) h141 h142 h143
    exact ⟨_, F44, F44.binds (ps := ["row"]) fun _ _ _ _ _ _ us hl => match us, hl with | [_], _ => rfl⟩
  obtain ⟨d45, F45, b45⟩ : ∃ fd, Fun K "read_log" "read_log" s_read_log f45 fd ∧ Binds K fd ["lines"] [] := by
    have F45 := fun_mk (st := s_read_log) h145 h146 h147
    exact ⟨_, F45, F45.binds (ps := ["lines"]) fun _ _ _ _ _ _ us hl => match us, hl with | [_], _ => rfl⟩
  obtain ⟨d46, F46, b46⟩ : ∃ fd, Fun K "_law_source" "_law_source" s__law_source f46 fd ∧ Binds K fd ["script", "salt"] [] := by
    have F46 := fun_mk (st := s__law_source) h149 h150 h151
    exact ⟨_, F46, F46.binds (ps := ["script", "salt"]) fun _ _ _ _ _ _ us hl => match us, hl with | [_, _], _ => rfl⟩
  obtain ⟨d47, F47, b47⟩ : ∃ fd, Fun K "_law_next" "_law_next" s__law_next f47 fd ∧ Binds K fd ["source"] [] := by
    have F47 := fun_mk (st := s__law_next) h153 h154 h155
    exact ⟨_, F47, F47.binds (ps := ["source"]) fun _ _ _ _ _ _ us hl => match us, hl with | [_], _ => rfl⟩
  obtain ⟨d48, F48, b48⟩ : ∃ fd, Fun K "_law_pick" "_law_pick" s__law_pick f48 fd ∧ Binds K fd ["source", "many"] [] := by
    have F48 := fun_mk (st := s__law_pick) h157 h158 h159
    exact ⟨_, F48, F48.binds (ps := ["source", "many"]) fun _ _ _ _ _ _ us hl => match us, hl with | [_, _], _ => rfl⟩
  obtain ⟨d49, F49, b49⟩ : ∃ fd, Fun K "_law_one_in" "_law_one_in" s__law_one_in f49 fd ∧ Binds K fd ["source", "many"] [] := by
    have F49 := fun_mk (st := s__law_one_in) h161 h162 h163
    exact ⟨_, F49, F49.binds (ps := ["source", "many"]) fun _ _ _ _ _ _ us hl => match us, hl with | [_, _], _ => rfl⟩
  obtain ⟨d50, F50, b50⟩ : ∃ fd, Fun K "_law_one_of" "_law_one_of" s__law_one_of f50 fd ∧ Binds K fd ["source", "row"] [] := by
    have F50 := fun_mk (st := s__law_one_of) h165 h166 h167
    exact ⟨_, F50, F50.binds (ps := ["source", "row"]) fun _ _ _ _ _ _ us hl => match us, hl with | [_, _], _ => rfl⟩
  obtain ⟨d51, F51, b51⟩ : ∃ fd, Fun K "_law_letter" "_law_letter" s__law_letter f51 fd ∧ Binds K fd ["k"] [] := by
    have F51 := fun_mk (st := s__law_letter) h169 h170 h171
    exact ⟨_, F51, F51.binds (ps := ["k"]) fun _ _ _ _ _ _ us hl => match us, hl with | [_], _ => rfl⟩
  obtain ⟨d52, F52, b52⟩ : ∃ fd, Fun K "_law_word" "_law_word" s__law_word f52 fd ∧ Binds K fd ["source", "longest"] [] := by
    have F52 := fun_mk (st := s__law_word) h173 h174 h175
    exact ⟨_, F52, F52.binds (ps := ["source", "longest"]) fun _ _ _ _ _ _ us hl => match us, hl with | [_, _], _ => rfl⟩
  obtain ⟨d53, F53, b53⟩ : ∃ fd, Fun K "_law_words" "_law_words" s__law_words f53 fd ∧ Binds K fd ["source", "many", "longest", "spent"] [] := by
    have F53 := fun_mk (st := s__law_words) h177 h178 h179
    exact ⟨_, F53, F53.binds (ps := ["source", "many", "longest", "spent"]) fun _ _ _ _ _ _ us hl => match us, hl with | [_, _, _, _], _ => rfl⟩
  obtain ⟨d54, F54, b54⟩ : ∃ fd, Fun K "_law_lists" "_law_lists" s__law_lists f54 fd ∧ Binds K fd ["thing"] [] := by
    have F54 := fun_mk (st := s__law_lists) h181 h182 h183
    exact ⟨_, F54, F54.binds (ps := ["thing"]) fun _ _ _ _ _ _ us hl => match us, hl with | [_], _ => rfl⟩
  obtain ⟨d55, F55, b55⟩ : ∃ fd, Fun K "_law_same" "_law_same" s__law_same f55 fd ∧ Binds K fd ["actual", "due"] [] := by
    have F55 := fun_mk (st := s__law_same) h185 h186 h187
    exact ⟨_, F55, F55.binds (ps := ["actual", "due"]) fun _ _ _ _ _ _ us hl => match us, hl with | [_, _], _ => rfl⟩
  obtain ⟨d56, F56, b56⟩ : ∃ fd, Fun K "_law_change" "_law_change" s__law_change f56 fd ∧ Binds K fd ["change", "form"] [] := by
    have F56 := fun_mk (st := s__law_change) h189 h190 h191
    exact ⟨_, F56, F56.binds (ps := ["change", "form"]) fun _ _ _ _ _ _ us hl => match us, hl with | [_, _], _ => rfl⟩
  obtain ⟨d57, F57, b57⟩ : ∃ fd, Fun K "_law_wide_way" "_law_wide_way" s__law_wide_way f57 fd ∧ Binds K fd ["source", "pool", "gap"] [] := by
    have F57 := fun_mk (st := s__law_wide_way) h193 h194 h195
    exact ⟨_, F57, F57.binds (ps := ["source", "pool", "gap"]) fun _ _ _ _ _ _ us hl => match us, hl with | [_, _, _], _ => rfl⟩
  obtain ⟨d58, F58, b58⟩ : ∃ fd, Fun K "_law_wide_reach" "_law_wide_reach" s__law_wide_reach f58 fd ∧ Binds K fd ["source", "heads", "bare"] [] := by
    have F58 := fun_mk (st := s__law_wide_reach) h197 h198 h199
    exact ⟨_, F58, F58.binds (ps := ["source", "heads", "bare"]) fun _ _ _ _ _ _ us hl => match us, hl with | [_, _, _], _ => rfl⟩
  obtain ⟨d59, F59, b59⟩ : ∃ fd, Fun K "_law_wide_term" "_law_wide_term" s__law_wide_term f59 fd ∧ Binds K fd ["source", "words", "heads", "pool", "name", "maps"] [] := by
    have F59 := fun_mk (st := s__law_wide_term) h201 h202 h203
    exact ⟨_, F59, F59.binds (ps := ["source", "words", "heads", "pool", "name", "maps"]) fun _ _ _ _ _ _ us hl => match us, hl with | [_, _, _, _, _, _], _ => rfl⟩
  obtain ⟨d60, F60, b60⟩ : ∃ fd, Fun K "_law_free_way" "_law_free_way" s__law_free_way f60 fd ∧ Binds K fd ["source", "words"] [] := by
    have F60 := fun_mk (st := s__law_free_way) h205 h206 h207
    exact ⟨_, F60, F60.binds (ps := ["source", "words"]) fun _ _ _ _ _ _ us hl => match us, hl with | [_, _], _ => rfl⟩
  obtain ⟨d61, F61, b61⟩ : ∃ fd, Fun K "_law_wide_change" "_law_wide_change" s__law_wide_change f61 fd ∧ Binds K fd ["source", "words"] [] := by
    have F61 := fun_mk (st := s__law_wide_change) h209 h210 h211
    exact ⟨_, F61, F61.binds (ps := ["source", "words"]) fun _ _ _ _ _ _ us hl => match us, hl with | [_, _], _ => rfl⟩
  obtain ⟨d62, F62, b62⟩ : ∃ fd, Fun K "_law_line" "_law_line" s__law_line f62 fd ∧ Binds K fd ["word", "row"] [] := by
    have F62 := fun_mk (st := s__law_line) h213 h214 h215
    exact ⟨_, F62, F62.binds (ps := ["word", "row"]) fun _ _ _ _ _ _ us hl => match us, hl with | [_, _], _ => rfl⟩
  obtain ⟨d63, F63, b63⟩ : ∃ fd, Fun K "_law_term_lines" "_law_term_lines" s__law_term_lines f63 fd ∧ Binds K fd ["term"] [] := by
    have F63 := fun_mk (st := s__law_term_lines) h217 h218 h219
    exact ⟨_, F63, F63.binds (ps := ["term"]) fun _ _ _ _ _ _ us hl => match us, hl with | [_], _ => rfl⟩
  obtain ⟨d64, F64, b64⟩ : ∃ fd, Fun K "_law_entry_lines" "_law_entry_lines" s__law_entry_lines f64 fd ∧ Binds K fd ["change"] [] := by
    have F64 := fun_mk (st := s__law_entry_lines) h221 h222 h223
    exact ⟨_, F64, F64.binds (ps := ["change"]) fun _ _ _ _ _ _ us hl => match us, hl with | [_], _ => rfl⟩
  obtain ⟨d65, F65, b65⟩ : ∃ fd, Fun K "_law_log_lines" "_law_log_lines" s__law_log_lines f65 fd ∧ Binds K fd ["changes"] [] := by
    have F65 := fun_mk (st := s__law_log_lines) h225 h226 h227
    exact ⟨_, F65, F65.binds (ps := ["changes"]) fun _ _ _ _ _ _ us hl => match us, hl with | [_], _ => rfl⟩
  obtain ⟨d66, F66, b66⟩ : ∃ fd, Fun K "_law_told_term" "_law_told_term" s__law_told_term f66 fd ∧ Binds K fd ["term"] [] := by
    have F66 := fun_mk (st := s__law_told_term) h229 h230 h231
    exact ⟨_, F66, F66.binds (ps := ["term"]) fun _ _ _ _ _ _ us hl => match us, hl with | [_], _ => rfl⟩
  obtain ⟨d67, F67, b67⟩ : ∃ fd, Fun K "_law_told_change" "_law_told_change" s__law_told_change f67 fd ∧ Binds K fd ["change"] [] := by
    have F67 := fun_mk (st := s__law_told_change) h233 h234 h235
    exact ⟨_, F67, F67.binds (ps := ["change"]) fun _ _ _ _ _ _ us hl => match us, hl with | [_], _ => rfl⟩
  obtain ⟨d68, F68, b68⟩ : ∃ fd, Fun K "_law_told_changes" "_law_told_changes" s__law_told_changes f68 fd ∧ Binds K fd ["changes"] [] := by
    have F68 := fun_mk (st := s__law_told_changes) h237 h238 h239
    exact ⟨_, F68, F68.binds (ps := ["changes"]) fun _ _ _ _ _ _ us hl => match us, hl with | [_], _ => rfl⟩
  obtain ⟨d70, F70, b70⟩ : ∃ fd, Fun K "_law_made" "_law_made" s__law_made f70 fd ∧ Binds K fd ["data", "form"] [] := by
    have F70 := fun_mk (st := s__law_made) h241 h242 h243
    exact ⟨_, F70, F70.binds (ps := ["data", "form"]) fun _ _ _ _ _ _ us hl => match us, hl with | [_, _], _ => rfl⟩
  obtain ⟨d14, F14, b14⟩ : ∃ fd, Fun K "__eq__" "Term.__eq__" s_Term___eq__ f14 fd ∧ Binds K fd ["self", "other"] [] := by
    have F14 := fun_mk (st := s_Term___eq__) h245 h246 h247
    exact ⟨_, F14, F14.binds (ps := ["self", "other"]) fun _ _ _ _ _ _ us hl => match us, hl with | [_, _], _ => rfl⟩
  obtain ⟨d69, F69, b69⟩ : ∃ fd, Fun K "_law_there_and_back" "_law_there_and_back" s__law_there_and_back f69 fd ∧ Binds K fd ["data", "changes", "form"] [] := by
    have F69 := fun_mk (st := s__law_there_and_back) h248 h249 h250
    exact ⟨_, F69, F69.binds (ps := ["data", "changes", "form"]) fun _ _ _ _ _ _ us hl => match us, hl with | [_, _, _], _ => rfl⟩
  have F71 := fun_mk (st := s_law) h252 h253 h254
  have b71 := F71.binds (ps := ["script"]) fun _ _ _ _ _ _ us hl => match us, hl with | [_], _ => rfl
  have T : Txt K mg (nth fl [C0, C1, C2, C3, C4]) (nth fl [fl, f1, f2, f3, f4, f5, f6, f7, f8, f9, f10, f11, fl, fl, f14, f15, f16, f17, f18, f19, f20, f21, fl, f23, f24, f25, fl, f27, f28, f29, f30, f31, f32, f33, f34, f35, f36, f37, f38, f39, f40, f41, f42, f43, f44, f45, f46, f47, f48, f49, f50, f51, f52, f53, f54, f55, f56, f57, f58, f59, f60, f61, f62, f63, f64, f65, f66, f67, f68, f69, f70, fl]) (nth d1 [d1, d1, d2, d3, d4, d5, d6, d7, d8, d9, d10, d11, d1, d1, d14, d15, d16, d17, d18, d19, d20, d21, d1, d23, d24, d25, d1, d27, d28, d29, d30, d31, d32, d33, d34, d35, d36, d37, d38, d39, d40, d41, d42, d43, d44, d45, d46, d47, d48, d49, d50, d51, d52, d53, d54, d55, d56, d57, d58, d59, d60, d61, d62, d63, d64, d65, d66, d67, d68, d69, d70, PySem.W.fnOf "law" "law" (defArgs s_law) (defBody s_law) (defScope s_law) .none kV71 dc71 pm71 an71 cd71 ct71]) dT11 := {
    F_BadTerm___init__ := F1
    b_BadTerm___init__ := b1
    k_BadTerm___init__ := h2
    F_BadLine___init__ := F2
    b_BadLine___init__ := b2
    k_BadLine___init__ := h5
    F_deep := F3
    b_deep := b3
    g_deep := PySem.W.mg_of X G h9
    k_deep := h8
    F_is_word := F4
    b_is_word := b4
    g_is_word := PySem.W.mg_of X G h13
    k_is_word := h12
    F_is_note := F5
    b_is_note := b5
    g_is_note := PySem.W.mg_of X G h17
    k_is_note := h16
    F_is_token := F6
    b_is_token := b6
    g_is_token := PySem.W.mg_of X G h21
    k_is_token := h20
    F_is_pattern := F7
    b_is_pattern := b7
    g_is_pattern := PySem.W.mg_of X G h25
    k_is_pattern := h24
    F_are_items := F8
    b_are_items := b8
    g_are_items := PySem.W.mg_of X G h29
    k_are_items := h28
    F_is_way := F9
    b_is_way := b9
    g_is_way := PySem.W.mg_of X G h33
    k_is_way := h32
    F_is_scope := F10
    b_is_scope := b10
    g_is_scope := PySem.W.mg_of X G h37
    k_is_scope := h36
    D_Term___init__ := F11
    kb_Term___init__ := kb11
    k_Term___init__ := h40
    F_keyed_term := F15
    b_keyed_term := b15
    g_keyed_term := PySem.W.mg_of X G h47
    k_keyed_term := h46
    F_Lines___init__ := F16
    b_Lines___init__ := b16
    k_Lines___init__ := h50
    F_Lines_line_number := F17
    b_Lines_line_number := b17
    k_Lines_line_number := h53
    F_Lines_line_words := F18
    b_Lines_line_words := b18
    k_Lines_line_words := h56
    F_Lines_first_word := F19
    b_Lines_first_word := b19
    k_Lines_first_word := h59
    F_Lines_many_words := F20
    b_Lines_many_words := b20
    k_Lines_many_words := h62
    F_Lines_word_at := F21
    b_Lines_word_at := b21
    k_Lines_word_at := h65
    F_Lines_fail_at := F23
    b_Lines_fail_at := b23
    k_Lines_fail_at := h68
    F_Lines_name_at := F24
    b_Lines_name_at := b24
    k_Lines_name_at := h71
    F_Lines_item_at := F25
    b_Lines_item_at := b25
    k_Lines_item_at := h74
    F_Lines_want_word := F27
    b_Lines_want_word := b27
    k_Lines_want_word := h77
    F_Lines_close_at := F28
    b_Lines_close_at := b28
    k_Lines_close_at := h80
    F_line_of := F29
    b_line_of := b29
    g_line_of := PySem.W.mg_of X G h84
    k_line_of := h83
    F_write_term := F30
    b_write_term := b30
    g_write_term := PySem.W.mg_of X G h88
    k_write_term := h87
    F_items_from := F31
    b_items_from := b31
    g_items_from := PySem.W.mg_of X G h92
    k_items_from := h91
    F_way_rows := F32
    b_way_rows := b32
    g_way_rows := PySem.W.mg_of X G h96
    k_way_rows := h95
    F_scope_row := F33
    b_scope_row := b33
    g_scope_row := PySem.W.mg_of X G h100
    k_scope_row := h99
    F_end_line := F34
    b_end_line := b34
    g_end_line := PySem.W.mg_of X G h104
    k_end_line := h103
    F_term_row := F35
    b_term_row := b35
    g_term_row := PySem.W.mg_of X G h108
    k_term_row := h107
    F_made_term := F36
    b_made_term := b36
    g_made_term := PySem.W.mg_of X G h112
    k_made_term := h111
    F_entry_lines := F37
    b_entry_lines := b37
    g_entry_lines := PySem.W.mg_of X G h116
    k_entry_lines := h115
    F_write_log := F38
    b_write_log := b38
    g_write_log := PySem.W.mg_of X G h120
    k_write_log := h119
    F_name_line := F39
    b_name_line := b39
    g_name_line := PySem.W.mg_of X G h124
    k_name_line := h123
    F_added_row := F40
    b_added_row := b40
    g_added_row := PySem.W.mg_of X G h128
    k_added_row := h127
    F_ways_of_entry := F41
    b_ways_of_entry := b41
    g_ways_of_entry := PySem.W.mg_of X G h132
    k_ways_of_entry := h131
    F_first_of_entry := F42
    b_first_of_entry := b42
    g_first_of_entry := PySem.W.mg_of X G h136
    k_first_of_entry := h135
    F_entry_row := F43
    b_entry_row := b43
    g_entry_row := PySem.W.mg_of X G h140
    k_entry_row := h139
    F_made_change := F44
    b_made_change := b44
    g_made_change := PySem.W.mg_of X G h144
    k_made_change := h143
    F_read_log := F45
    b_read_log := b45
    g_read_log := PySem.W.mg_of X G h148
    k_read_log := h147
    F__law_source := F46
    b__law_source := b46
    g__law_source := PySem.W.mg_of X G h152
    k__law_source := h151
    F__law_next := F47
    b__law_next := b47
    g__law_next := PySem.W.mg_of X G h156
    k__law_next := h155
    F__law_pick := F48
    b__law_pick := b48
    g__law_pick := PySem.W.mg_of X G h160
    k__law_pick := h159
    F__law_one_in := F49
    b__law_one_in := b49
    g__law_one_in := PySem.W.mg_of X G h164
    k__law_one_in := h163
    F__law_one_of := F50
    b__law_one_of := b50
    g__law_one_of := PySem.W.mg_of X G h168
    k__law_one_of := h167
    F__law_letter := F51
    b__law_letter := b51
    g__law_letter := PySem.W.mg_of X G h172
    k__law_letter := h171
    F__law_word := F52
    b__law_word := b52
    g__law_word := PySem.W.mg_of X G h176
    k__law_word := h175
    F__law_words := F53
    b__law_words := b53
    g__law_words := PySem.W.mg_of X G h180
    k__law_words := h179
    F__law_lists := F54
    b__law_lists := b54
    g__law_lists := PySem.W.mg_of X G h184
    k__law_lists := h183
    F__law_same := F55
    b__law_same := b55
    g__law_same := PySem.W.mg_of X G h188
    k__law_same := h187
    F__law_change := F56
    b__law_change := b56
    g__law_change := PySem.W.mg_of X G h192
    k__law_change := h191
    F__law_wide_way := F57
    b__law_wide_way := b57
    g__law_wide_way := PySem.W.mg_of X G h196
    k__law_wide_way := h195
    F__law_wide_reach := F58
    b__law_wide_reach := b58
    g__law_wide_reach := PySem.W.mg_of X G h200
    k__law_wide_reach := h199
    F__law_wide_term := F59
    b__law_wide_term := b59
    g__law_wide_term := PySem.W.mg_of X G h204
    k__law_wide_term := h203
    F__law_free_way := F60
    b__law_free_way := b60
    g__law_free_way := PySem.W.mg_of X G h208
    k__law_free_way := h207
    F__law_wide_change := F61
    b__law_wide_change := b61
    g__law_wide_change := PySem.W.mg_of X G h212
    k__law_wide_change := h211
    F__law_line := F62
    b__law_line := b62
    g__law_line := PySem.W.mg_of X G h216
    k__law_line := h215
    F__law_term_lines := F63
    b__law_term_lines := b63
    g__law_term_lines := PySem.W.mg_of X G h220
    k__law_term_lines := h219
    F__law_entry_lines := F64
    b__law_entry_lines := b64
    g__law_entry_lines := PySem.W.mg_of X G h224
    k__law_entry_lines := h223
    F__law_log_lines := F65
    b__law_log_lines := b65
    g__law_log_lines := PySem.W.mg_of X G h228
    k__law_log_lines := h227
    F__law_told_term := F66
    b__law_told_term := b66
    g__law_told_term := PySem.W.mg_of X G h232
    k__law_told_term := h231
    F__law_told_change := F67
    b__law_told_change := b67
    g__law_told_change := PySem.W.mg_of X G h236
    k__law_told_change := h235
    F__law_told_changes := F68
    b__law_told_changes := b68
    g__law_told_changes := PySem.W.mg_of X G h240
    k__law_told_changes := h239
    F__law_made := F70
    b__law_made := b70
    g__law_made := PySem.W.mg_of X G h244
    k__law_made := h243
    F_Term___eq__ := F14
    b_Term___eq__ := b14
    k_Term___eq__ := h247
    F__law_there_and_back := F69
    b__law_there_and_back := b69
    g__law_there_and_back := PySem.W.mg_of X G h251
    k__law_there_and_back := h250
    F_law := F71
    b_law := b71
    g_law := PySem.W.mg_of X G h255
    k_law := h254
    kt3_tuple := kitTyX rfl (by decide +kernel) h256
    kt3_list := kitTyX rfl (by decide +kernel) h257
    kt3_str := kitTyX rfl (by decide +kernel) h258
    gs_GAP := ⟨_, PySem.W.mg_of X G h259⟩
    gs_PLAIN_SCOPES := ⟨_, _, _, _, PySem.W.mg_of X G h260, h261, rfl, rfl, rfl, (show (3 : Nat) ≤ sizeLine by decide), .cons ⟨_, rfl⟩ (.cons ⟨_, rfl⟩ (.cons ⟨_, rfl⟩ (.nil)))⟩
    gs_SCOPES_OF_A_WORD := ⟨_, _, _, _, PySem.W.mg_of X G h262, h263, rfl, rfl, rfl, (show (2 : Nat) ≤ sizeLine by decide), .cons ⟨_, rfl⟩ (.cons ⟨_, rfl⟩ (.nil))⟩
    kt3_bool := kitTyX rfl (by decide +kernel) h264
    kt3_int := kitTyX rfl (by decide +kernel) h265
    z_isinstance := PySem.W.mg_none_of X G h266
    z_tuple := PySem.W.mg_none_of X G h267
    z_list := PySem.W.mg_none_of X G h268
    z_str := PySem.W.mg_none_of X G h269
    z_len := PySem.W.mg_none_of X G h270
    z_enumerate := PySem.W.mg_none_of X G h271
    z_all := PySem.W.mg_none_of X G h272
    z_sum := PySem.W.mg_none_of X G h273
    z_int := PySem.W.mg_none_of X G h274
    z_abs := PySem.W.mg_none_of X G h275
    z_range := PySem.W.mg_none_of X G h276
    z_bool := PySem.W.mg_none_of X G h277
    g_AcrossError := PySem.W.mg_of X G h278
    bx0 := ⟨h279, h280, h281⟩
    g_BadTerm := PySem.W.mg_of X G h282
    x1 := ⟨⟨_, _, _, _, _, _, _, _, _, _, _, _, _, _, _, h283, rfl⟩, h284, h285, h286, h287⟩
    i1 := h288
    t1 := h289
    xn1_word := h290
    g_BadLine := PySem.W.mg_of X G h291
    x2 := ⟨⟨_, _, _, _, _, _, _, _, _, _, _, _, _, _, _, h292, rfl⟩, h293, h294, h295, h296⟩
    i2 := h297
    t2 := h298
    xn2_line := h299
    xn2_word := h300
    g_Term := PySem.W.mg_of X G h301
    c3 := ⟨h302, h303, h304, h305⟩
    ow3 := ⟨⟨⟨h302, h303, h304, h305⟩, h306, h307, h308, h309⟩, h317, h318, own_subs h310 h311 h312 h313 h314 h315 h316⟩
    n3_name := h319
    n3_pattern := h320
    n3_ways := h321
    n3_scope := h322
    n3_first := h323
    n3_turn := h324
    m3 := ⟨h325, h326, h327, h328⟩
    me3 := h329
    mf3 := h330
    g_Lines := PySem.W.mg_of X G h331
    c4 := ⟨h332, h333, h334, h335⟩
    ow4 := ⟨⟨⟨h332, h333, h334, h335⟩, h336, h307, h308, h337⟩, h345, h346, own_subs h338 h339 h340 h341 h342 h343 h344⟩
    n4_texts := h347
    n4_place := h348
    m4 := ⟨h349, h350, h351, h352⟩
    mm4_line_number := ⟨h353, h354, h53⟩
    mm4_line_words := ⟨h355, h356, h56⟩
    mm4_first_word := ⟨h357, h358, h59⟩
    mm4_many_words := ⟨h359, h360, h62⟩
    mm4_word_at := ⟨h361, h362, h65⟩
    mm4_fail_at := ⟨h363, h364, h68⟩
    mm4_name_at := ⟨h365, h366, h71⟩
    mm4_item_at := ⟨h367, h368, h74⟩
    mm4_want_word := ⟨h369, h370, h77⟩
    mm4_close_at := ⟨h371, h372, h80⟩
  }
  exact ⟨_, fun s v => .of_eq rfl, fun base _ _ => ⟨_, ok_law T⟩⟩
end A08
open PySem PySem.W PyProof.Rows Kp in
set_option maxRecDepth 100000 in
set_option maxHeartbeats 0 in
theorem PySem.Challenge.cw_keptacross_k08_log_lines_holds : PySem.Challenge.rw_keptacross_k08_log_lines.Holds := by
  w_on; o_law; k_head; (case hw => w_witness2)
  k_fill
  refine walk_end (l := PySem.Challenge.rw_keptacross_k08_log_lines) (n := 63) (k := 16) (x := "script") (f := A08.f_law) rfl (by decide) rfl ⟨rfl, by decide, by decide⟩ (fun w h Y => PySem.W.kIn_of Y) ?F (fun ns hl => A08.law_true ns hl)
  case F =>
    intro w mg fa h KX G hmg
    refine' A08.all_mk KX G hmg ?h9 ?h13 ?h17 ?h21 ?h25 ?h29 ?h33 ?h37 ?h47 ?h84 ?h88 ?h92 ?h96 ?h100 ?h104 ?h108 ?h112 ?h116 ?h120 ?h124 ?h128 ?h132 ?h136 ?h140 ?h144 ?h148 ?h152 ?h156 ?h160 ?h164 ?h168 ?h172 ?h176 ?h180 ?h184 ?h188 ?h192 ?h196 ?h200 ?h204 ?h208 ?h212 ?h216 ?h220 ?h224 ?h228 ?h232 ?h236 ?h240 ?h244 ?h251 ?h255 ?h259 ?h260 ?h262 ?h278 ?h282 ?h291 ?h301 ?h331 ?h261 ?h263 ?h283 ?h288 ?h292 ?h297 ?h326 ?h329 ?h350 ?h353 ?h355 ?h357 ?h359 ?h361 ?h363 ?h365 ?h367 ?h369 ?h371 ?h0 ?h3 ?h6 ?h10 ?h14 ?h18 ?h22 ?h26 ?h30 ?h34 ?h38 ?h44 ?h48 ?h51 ?h54 ?h57 ?h60 ?h63 ?h66 ?h69 ?h72 ?h75 ?h78 ?h81 ?h85 ?h89 ?h93 ?h97 ?h101 ?h105 ?h109 ?h113 ?h117 ?h121 ?h125 ?h129 ?h133 ?h137 ?h141 ?h145 ?h149 ?h153 ?h157 ?h161 ?h165 ?h169 ?h173 ?h177 ?h181 ?h185 ?h189 ?h193 ?h197 ?h201 ?h205 ?h209 ?h213 ?h217 ?h221 ?h225 ?h229 ?h233 ?h237 ?h241 ?h245 ?h248 ?h252 ?h41 ?h42 ?h43 ?h1 ?h2 ?h4 ?h5 ?h7 ?h8 ?h11 ?h12 ?h15 ?h16 ?h19 ?h20 ?h23 ?h24 ?h27 ?h28 ?h31 ?h32 ?h35 ?h36 ?h39 ?h40 ?h45 ?h46 ?h49 ?h50 ?h52 ?h53 ?h55 ?h56 ?h58 ?h59 ?h61 ?h62 ?h64 ?h65 ?h67 ?h68 ?h70 ?h71 ?h73 ?h74 ?h76 ?h77 ?h79 ?h80 ?h82 ?h83 ?h86 ?h87 ?h90 ?h91 ?h94 ?h95 ?h98 ?h99 ?h102 ?h103 ?h106 ?h107 ?h110 ?h111 ?h114 ?h115 ?h118 ?h119 ?h122 ?h123 ?h126 ?h127 ?h130 ?h131 ?h134 ?h135 ?h138 ?h139 ?h142 ?h143 ?h146 ?h147 ?h150 ?h151 ?h154 ?h155 ?h158 ?h159 ?h162 ?h163 ?h166 ?h167 ?h170 ?h171 ?h174 ?h175 ?h178 ?h179 ?h182 ?h183 ?h186 ?h187 ?h190 ?h191 ?h194 ?h195 ?h198 ?h199 ?h202 ?h203 ?h206 ?h207 ?h210 ?h211 ?h214 ?h215 ?h218 ?h219 ?h222 ?h223 ?h226 ?h227 ?h230 ?h231 ?h234 ?h235 ?h238 ?h239 ?h242 ?h243 ?h246 ?h247 ?h249 ?h250 ?h253 ?h254 ?h256 ?h257 ?h258 ?h264 ?h265 ?h266 ?h267 ?h268 ?h269 ?h270 ?h271 ?h272 ?h273 ?h274 ?h275 ?h276 ?h277 ?h279 ?h280 ?h281 ?h284 ?h285 ?h286 ?h287 ?h289 ?h290 ?h293 ?h294 ?h295 ?h296 ?h298 ?h299 ?h300 ?h302 ?h303 ?h304 ?h305 ?h306 ?h307 ?h308 ?h309 ?h310 ?h311 ?h312 ?h313 ?h314 ?h315 ?h316 ?h317 ?h318 ?h319 ?h320 ?h321 ?h322 ?h323 ?h324 ?h325 ?h327 ?h328 ?h330 ?h332 ?h333 ?h334 ?h335 ?h336 ?h337 ?h338 ?h339 ?h340 ?h341 ?h342 ?h343 ?h344 ?h345 ?h346 ?h347 ?h348 ?h349 ?h351 ?h352 ?h354 ?h356 ?h358 ?h360 ?h362 ?h364 ?h366 ?h368 ?h370 ?h372
    (case h9 => k_is)
    (case h13 => k_is)
    (case h17 => k_is)
    (case h21 => k_is)
    (case h25 => k_is)
    (case h29 => k_is)
    (case h33 => k_is)
    (case h37 => k_is)
    (case h47 => k_is)
    (case h84 => k_is)
    (case h88 => k_is)
    (case h92 => k_is)
    (case h96 => k_is)
    (case h100 => k_is)
    (case h104 => k_is)
    (case h108 => k_is)
    (case h112 => k_is)
    (case h116 => k_is)
    (case h120 => k_is)
    (case h124 => k_is)
    (case h128 => k_is)
    (case h132 => k_is)
    (case h136 => k_is)
    (case h140 => k_is)
    (case h144 => k_is)
    (case h148 => k_is)
    (case h152 => k_is)
    (case h156 => k_is)
    (case h160 => k_is)
    (case h164 => k_is)
    (case h168 => k_is)
    (case h172 => k_is)
    (case h176 => k_is)
    (case h180 => k_is)
    (case h184 => k_is)
    (case h188 => k_is)
    (case h192 => k_is)
    (case h196 => k_is)
    (case h200 => k_is)
    (case h204 => k_is)
    (case h208 => k_is)
    (case h212 => k_is)
    (case h216 => k_is)
    (case h220 => k_is)
    (case h224 => k_is)
    (case h228 => k_is)
    (case h232 => k_is)
    (case h236 => k_is)
    (case h240 => k_is)
    (case h244 => k_is)
    (case h251 => k_is)
    (case h255 => k_is)
    (case h259 => k_is)
    (case h260 => k_is)
    (case h262 => k_is)
    (case h278 => k_is)
    (case h282 => k_is)
    (case h291 => k_is)
    (case h301 => k_is)
    (case h331 => k_is)
    (case h261 => k_is)
    (case h263 => k_is)
    (case h283 => k_is)
    (case h288 => k_is)
    (case h292 => k_is)
    (case h297 => k_is)
    (case h326 => k_is)
    (case h329 => k_is)
    (case h350 => k_is)
    (case h353 => k_is)
    (case h355 => k_is)
    (case h357 => k_is)
    (case h359 => k_is)
    (case h361 => k_is)
    (case h363 => k_is)
    (case h365 => k_is)
    (case h367 => k_is)
    (case h369 => k_is)
    (case h371 => k_is)
    (case h0 => k_is)
    (case h3 => k_is)
    (case h6 => k_is)
    (case h10 => k_is)
    (case h14 => k_is)
    (case h18 => k_is)
    (case h22 => k_is)
    (case h26 => k_is)
    (case h30 => k_is)
    (case h34 => k_is)
    (case h38 => k_is)
    (case h44 => k_is)
    (case h48 => k_is)
    (case h51 => k_is)
    (case h54 => k_is)
    (case h57 => k_is)
    (case h60 => k_is)
    (case h63 => k_is)
    (case h66 => k_is)
    (case h69 => k_is)
    (case h72 => k_is)
    (case h75 => k_is)
    (case h78 => k_is)
    (case h81 => k_is)
    (case h85 => k_is)
    (case h89 => k_is)
    (case h93 => k_is)
    (case h97 => k_is)
    (case h101 => k_is)
    (case h105 => k_is)
    (case h109 => k_is)
    (case h113 => k_is)
    (case h117 => k_is)
    (case h121 => k_is)
    (case h125 => k_is)
    (case h129 => k_is)
    (case h133 => k_is)
    (case h137 => k_is)
    (case h141 => k_is)
    (case h145 => k_is)
    (case h149 => k_is)
    (case h153 => k_is)
    (case h157 => k_is)
    (case h161 => k_is)
    (case h165 => k_is)
    (case h169 => k_is)
    (case h173 => k_is)
    (case h177 => k_is)
    (case h181 => k_is)
    (case h185 => k_is)
    (case h189 => k_is)
    (case h193 => k_is)
    (case h197 => k_is)
    (case h201 => k_is)
    (case h205 => k_is)
    (case h209 => k_is)
    (case h213 => k_is)
    (case h217 => k_is)
    (case h221 => k_is)
    (case h225 => k_is)
    (case h229 => k_is)
    (case h233 => k_is)
    (case h237 => k_is)
    (case h241 => k_is)
    (case h245 => k_is)
    (case h248 => k_is)
    (case h252 => k_is)
    (case h41 => k_is)
    (case h42 => k_is)
    (case h43 => k_is)
    (case h1 => k_is)
    (case h2 => k_is)
    (case h4 => k_is)
    (case h5 => k_is)
    (case h7 => k_is)
    (case h8 => k_is)
    (case h11 => k_is)
    (case h12 => k_is)
    (case h15 => k_is)
    (case h16 => k_is)
    (case h19 => k_is)
    (case h20 => k_is)
    (case h23 => k_is)
    (case h24 => k_is)
    (case h27 => k_is)
    (case h28 => k_is)
    (case h31 => k_is)
    (case h32 => k_is)
    (case h35 => k_is)
    (case h36 => k_is)
    (case h39 => k_is)
    (case h40 => k_is)
    (case h45 => k_is)
    (case h46 => k_is)
    (case h49 => k_is)
    (case h50 => k_is)
    (case h52 => k_is)
    (case h53 => k_is)
    (case h55 => k_is)
    (case h56 => k_is)
    (case h58 => k_is)
    (case h59 => k_is)
    (case h61 => k_is)
    (case h62 => k_is)
    (case h64 => k_is)
    (case h65 => k_is)
    (case h67 => k_is)
    (case h68 => k_is)
    (case h70 => k_is)
    (case h71 => k_is)
    (case h73 => k_is)
    (case h74 => k_is)
    (case h76 => k_is)
    (case h77 => k_is)
    (case h79 => k_is)
    (case h80 => k_is)
    (case h82 => k_is)
    (case h83 => k_is)
    (case h86 => k_is)
    (case h87 => k_is)
    (case h90 => k_is)
    (case h91 => k_is)
    (case h94 => k_is)
    (case h95 => k_is)
    (case h98 => k_is)
    (case h99 => k_is)
    (case h102 => k_is)
    (case h103 => k_is)
    (case h106 => k_is)
    (case h107 => k_is)
    (case h110 => k_is)
    (case h111 => k_is)
    (case h114 => k_is)
    (case h115 => k_is)
    (case h118 => k_is)
    (case h119 => k_is)
    (case h122 => k_is)
    (case h123 => k_is)
    (case h126 => k_is)
    (case h127 => k_is)
    (case h130 => k_is)
    (case h131 => k_is)
    (case h134 => k_is)
    (case h135 => k_is)
    (case h138 => k_is)
    (case h139 => k_is)
    (case h142 => k_is)
    (case h143 => k_is)
    (case h146 => k_is)
    (case h147 => k_is)
    (case h150 => k_is)
    (case h151 => k_is)
    (case h154 => k_is)
    (case h155 => k_is)
    (case h158 => k_is)
    (case h159 => k_is)
    (case h162 => k_is)
    (case h163 => k_is)
    (case h166 => k_is)
    (case h167 => k_is)
    (case h170 => k_is)
    (case h171 => k_is)
    (case h174 => k_is)
    (case h175 => k_is)
    (case h178 => k_is)
    (case h179 => k_is)
    (case h182 => k_is)
    (case h183 => k_is)
    (case h186 => k_is)
    (case h187 => k_is)
    (case h190 => k_is)
    (case h191 => k_is)
    (case h194 => k_is)
    (case h195 => k_is)
    (case h198 => k_is)
    (case h199 => k_is)
    (case h202 => k_is)
    (case h203 => k_is)
    (case h206 => k_is)
    (case h207 => k_is)
    (case h210 => k_is)
    (case h211 => k_is)
    (case h214 => k_is)
    (case h215 => k_is)
    (case h218 => k_is)
    (case h219 => k_is)
    (case h222 => k_is)
    (case h223 => k_is)
    (case h226 => k_is)
    (case h227 => k_is)
    (case h230 => k_is)
    (case h231 => k_is)
    (case h234 => k_is)
    (case h235 => k_is)
    (case h238 => k_is)
    (case h239 => k_is)
    (case h242 => k_is)
    (case h243 => k_is)
    (case h246 => k_is)
    (case h247 => k_is)
    (case h249 => k_is)
    (case h250 => k_is)
    (case h253 => k_is)
    (case h254 => k_is)
    (case h256 => k_is)
    (case h257 => k_is)
    (case h258 => k_is)
    (case h264 => k_is)
    (case h265 => k_is)
    (case h266 => k_is)
    (case h267 => k_is)
    (case h268 => k_is)
    (case h269 => k_is)
    (case h270 => k_is)
    (case h271 => k_is)
    (case h272 => k_is)
    (case h273 => k_is)
    (case h274 => k_is)
    (case h275 => k_is)
    (case h276 => k_is)
    (case h277 => k_is)
    (case h279 => k_is)
    (case h280 => k_is)
    (case h281 => k_is)
    (case h284 => k_is)
    (case h285 => k_is)
    (case h286 => k_is)
    (case h287 => k_is)
    (case h289 => k_is)
    (case h290 => k_is)
    (case h293 => k_is)
    (case h294 => k_is)
    (case h295 => k_is)
    (case h296 => k_is)
    (case h298 => k_is)
    (case h299 => k_is)
    (case h300 => k_is)
    (case h302 => k_is)
    (case h303 => k_is)
    (case h304 => k_is)
    (case h305 => k_is)
    (case h306 => k_is)
    (case h307 => k_is)
    (case h308 => k_is)
    (case h309 => k_is)
    (case h310 => k_is)
    (case h311 => k_is)
    (case h312 => k_is)
    (case h313 => k_is)
    (case h314 => k_is)
    (case h315 => k_is)
    (case h316 => k_is)
    (case h317 => k_is)
    (case h318 => k_is)
    (case h319 => k_is)
    (case h320 => k_is)
    (case h321 => k_is)
    (case h322 => k_is)
    (case h323 => k_is)
    (case h324 => k_is)
    (case h325 => k_is)
    (case h327 => k_is)
    (case h328 => k_is)
    (case h330 => k_is)
    (case h332 => k_is)
    (case h333 => k_is)
    (case h334 => k_is)
    (case h335 => k_is)
    (case h336 => k_is)
    (case h337 => k_is)
    (case h338 => k_is)
    (case h339 => k_is)
    (case h340 => k_is)
    (case h341 => k_is)
    (case h342 => k_is)
    (case h343 => k_is)
    (case h344 => k_is)
    (case h345 => k_is)
    (case h346 => k_is)
    (case h347 => k_is)
    (case h348 => k_is)
    (case h349 => k_is)
    (case h351 => k_is)
    (case h352 => k_is)
    (case h354 => k_is)
    (case h356 => k_is)
    (case h358 => k_is)
    (case h360 => k_is)
    (case h362 => k_is)
    (case h364 => k_is)
    (case h366 => k_is)
    (case h368 => k_is)
    (case h370 => k_is)
    (case h372 => k_is)
#print axioms PySem.Challenge.cw_keptacross_k08_log_lines_holds
