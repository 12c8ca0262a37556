import PyProof.Rows.All
import Wide.All
import OpenK.AllK
import Wide.FinOn
import HandS.ForMost
import HandS.ForExc
import HandS.Flow
import HandS.Iter
import HandS.IsInst
import KE.DataEq
import KE.LtData
import HandS.Head2
import HandS.HeadEnd
import HandS.HeadHook2
import PySem.Challenge.RW_keptacross_k07_work_lines
import HandS.ExcCtx
import HandS.HotCalls
import HandS.TupAny
import HandS.TupMul
import HandS.Codes
import KE.DataCmp
import HandS.Wide
import HandS.ExcInit
import HandS.ExcInitHot
import HandS.Comp
import HandS.Dict
import HandS.WordsDict
import HandS.More
import HandS.Words
import HandS.Defaults
import HandS.ClsMeth
import HandS.Star
import KE.SortData
import KE.KDictSum
import HandS.Text
import HandS.SetKeys
import KE.KDictPairs
import HandS.ExcIs
import KE.KExcIs
import HandS.ExcField
import HandS.RaiseMore
import HandS.SetFor
import HandS.Strs
import HandS.OwnIter
import PyProof.WalksMore
import HandS.Ends
import KE.GoesEnum
import PyProof.RulesMatch
import HandS.MakeKwOnly
import KE.DatumIndex
import HandS.Zip
import HandS.CallSlots
import HandS.Style
import KE.GoesZip
import HandS.Property
import PyProof.SliceList
import PyProof.StrLawsRepr
set_option Elab.async false
set_option linter.all false
set_option maxRecDepth 100000
set_option maxHeartbeats 2000000
namespace Kp
open PySem L2

/-! ### plain values -/
inductive PV where
  | non | bl (b : Bool) | int (i : Int) | str (x : Str)
  | tup (xs : List PV) | lst (xs : List PV)
  | dct (kvs : List (PV × PV))
  | obj (c : Nat) (fs : List (Str × PV))
  | frl (ns : List Int)
  /-- a class or a def of the text's own top -/
  | glb (c : Nat)
  /-- a caught exception: its object, its dict, its class, its fields -/
  | xo (a d : Addr) (c : Nat) (fs : List (Str × PV))
  /-- an object of which nothing is told -/
  | raw (a : Addr)

def keyPV : Key → PV
  | .inl i => .int i
  | .inr x => .str x

/-- a tuple at a: its object has no dict of its own -/
def TupAt (K : PySem.W.Frag) (H : Hp) (a : Addr) (vs : List V) : Prop :=
  (∃ o : Obj, o.dict = none ∧ H a = some (.frz o (.tup vs))) ∨ ∃ (o : Obj) (its : Array Value) (n : Nat), K.lookup a = some o ∧ o.cls = .type "tuple" ∧ o.dict = none ∧ o.data = .seq its n ∧ its.size ≤ sizeLine ∧ Vals vs its.toList
mutual
inductive Rep (K : PySem.W.Frag) (cl : Nat → Addr) (H : Hp) : V → PV → Prop
  | non : Rep K cl H .non .non
  | bl (b : Bool) : Rep K cl H (.bl b) (.bl b)
  | int (i : Int) : Rep K cl H (.int i) (.int i)
  | str (x : Str) (h : x.length ≤ sizeLine) : Rep K cl H (.str x) (.str x)
  | frl {a : Addr} {ns : List Int} : SqL K H a (ns.map V.int) → Rep K cl H (.ref a) (.frl ns)
  | glb (c : Nat) : Rep K cl H (.ref (cl c)) (.glb c)
  | xo {a d : Addr} {c : Nat} {gs : List (Str × V)} {fs : List (Str × PV)} : H d = some (.xd gs) → RepF K cl H gs fs → Rep K cl H (.ref a) (.xo a d c fs)
  | raw (a : Addr) : Rep K cl H (.ref a) (.raw a)
  | tup {a : Addr} {vs : List V} {xs : List PV} : TupAt K H a vs → vs.length ≤ sizeLine → RepL K cl H vs xs → Rep K cl H (.ref a) (.tup xs)
  | lst {a : Addr} {vs : List V} {xs : List PV} : H a = some (.lst vs) → vs.length ≤ sizeLine → RepL K cl H vs xs → Rep K cl H (.ref a) (.lst xs)
  | dct {a : Addr} {gs : List (Key × V)} {kvs : List (PV × PV)} : H a = some (.dK gs) → RepK K cl H gs kvs → Rep K cl H (.ref a) (.dct kvs)
  | obj {a dx : Addr} {c : Nat} {gs : List (Str × V)} {fs : List (Str × PV)} : H a = some (.ins (cl c) dx gs) → RepF K cl H gs fs → Rep K cl H (.ref a) (.obj c fs)
inductive RepL (K : PySem.W.Frag) (cl : Nat → Addr) (H : Hp) : List V → List PV → Prop
  | nil : RepL K cl H [] []
  | cons {v : V} {vs : List V} {x : PV} {xs : List PV} : Rep K cl H v x → RepL K cl H vs xs → RepL K cl H (v :: vs) (x :: xs)
inductive RepF (K : PySem.W.Frag) (cl : Nat → Addr) (H : Hp) : List (Str × V) → List (Str × PV) → Prop
  | nil : RepF K cl H [] []
  | cons {f : Str} {v : V} {vs : List (Str × V)} {x : PV} {xs : List (Str × PV)} : Rep K cl H v x → RepF K cl H vs xs → RepF K cl H ((f, v) :: vs) ((f, x) :: xs)
inductive RepK (K : PySem.W.Frag) (cl : Nat → Addr) (H : Hp) : List (Key × V) → List (PV × PV) → Prop
  | nil : RepK K cl H [] []
  | cons {k : Key} {v : V} {vs : List (Key × V)} {x : PV} {xs : List (PV × PV)} : Rep K cl H v x → RepK K cl H vs xs → RepK K cl H ((k, v) :: vs) ((keyPV k, x) :: xs)
end

section
variable {K : PySem.W.Frag} {cl : Nat → Addr} {H H' : Hp}
theorem TupAt.mono {a : Addr} {xs : List V} (e : Same H H') (h : TupAt K H a xs) : TupAt K H' a xs := by
  rcases h with ⟨o, h1, h⟩ | h
  · exact .inl ⟨o, h1, e _ _ h⟩
  · exact .inr h
theorem TupAt.sq {a : Addr} {xs : List V} (h : TupAt K H a xs) : SqT K H a xs := by
  rcases h with ⟨o, h1, h⟩ | ⟨o, its, n, h1, h2, _, h3, h4, h5⟩
  · exact .inl (.inr ⟨o, h⟩)
  · exact .inr ⟨o, its, n, h1, h2, h3, h4, h5⟩
theorem sqt_mono {a : Addr} {xs : List V} (e : Same H H') (h : TupAt K H a xs) : SqT K H' a xs := (h.mono e).sq
theorem tupAt_new {p : Addr} {o : Obj} {xs : List V} (h : o.dict = none) : TupAt K (upd H p (.frz o (.tup xs))) p xs := .inl ⟨o, h, upd_same⟩
mutual
theorem Rep.mono (e : Same H H') : ∀ {v : V} {x : PV}, Rep K cl H v x → Rep K cl H' v x
  | _, _, .non => .non
  | _, _, .bl b => .bl b
  | _, _, .int i => .int i
  | _, _, .str x h => .str x h
  | _, _, .frl h => .frl (e.seq h)
  | _, _, .glb c => .glb c
  | _, _, .xo h hs => .xo (e _ _ h) (RepF.mono e hs)
  | _, _, .raw a => .raw a
  | _, _, .tup h z hs => .tup (h.mono e) z (RepL.mono e hs)
  | _, _, .lst h z hs => .lst (e _ _ h) z (RepL.mono e hs)
  | _, _, .dct h hs => .dct (e _ _ h) (RepK.mono e hs)
  | _, _, .obj h hs => .obj (e _ _ h) (RepF.mono e hs)
theorem RepL.mono (e : Same H H') : ∀ {vs : List V} {xs : List PV}, RepL K cl H vs xs → RepL K cl H' vs xs
  | _, _, .nil => .nil
  | _, _, .cons h hs => .cons (Rep.mono e h) (RepL.mono e hs)
theorem RepF.mono (e : Same H H') : ∀ {vs : List (Str × V)} {xs : List (Str × PV)}, RepF K cl H vs xs → RepF K cl H' vs xs
  | _, _, .nil => .nil
  | _, _, .cons h hs => .cons (Rep.mono e h) (RepF.mono e hs)
theorem RepK.mono (e : Same H H') : ∀ {vs : List (Key × V)} {xs : List (PV × PV)}, RepK K cl H vs xs → RepK K cl H' vs xs
  | _, _, .nil => .nil
  | _, _, .cons h hs => .cons (Rep.mono e h) (RepK.mono e hs)
end
theorem RepL.length : ∀ {vs : List V} {xs : List PV}, RepL K cl H vs xs → vs.length = xs.length
  | _, _, .nil => rfl
  | _, _, .cons _ hs => by rw [List.length_cons, List.length_cons, RepL.length hs]
theorem RepL.get : ∀ {vs : List V} {xs : List PV} {i : Nat} {x : PV}, RepL K cl H vs xs → xs[i]? = some x → ∃ v, vs[i]? = some v ∧ Rep K cl H v x
  | _, _, _, _, .nil, e => by simp at e
  | _, _, 0, _, .cons h _, e => by simp at e; subst e; exact ⟨_, rfl, h⟩
  | _, _, i + 1, _, .cons _ hs, e => by
    obtain ⟨v, e1, e2⟩ := RepL.get (i := i) hs (by simpa using e)
    exact ⟨v, by simpa using e1, e2⟩
theorem RepL.get' : ∀ {vs : List V} {xs : List PV} {i : Nat} {v : V}, RepL K cl H vs xs → vs[i]? = some v → ∃ x, xs[i]? = some x ∧ Rep K cl H v x
  | _, _, _, _, .nil, e => by simp at e
  | _, _, 0, _, .cons h _, e => by simp at e; subst e; exact ⟨_, rfl, h⟩
  | _, _, i + 1, _, .cons _ hs, e => by
    obtain ⟨v, e1, e2⟩ := RepL.get' (i := i) hs (by simpa using e)
    exact ⟨v, by simpa using e1, e2⟩
theorem RepL.append : ∀ {vs ws : List V} {xs ys : List PV}, RepL K cl H vs xs → RepL K cl H ws ys → RepL K cl H (vs ++ ws) (xs ++ ys)
  | _, _, _, _, .nil, h => h
  | _, _, _, _, .cons h hs, k => .cons h (RepL.append hs k)
theorem RepL.one {v : V} {x : PV} (h : Rep K cl H v x) : RepL K cl H [v] [x] := .cons h .nil
theorem RepL.take : ∀ {vs : List V} {xs : List PV} (n : Nat), RepL K cl H vs xs → RepL K cl H (vs.take n) (xs.take n)
  | _, _, 0, _ => .nil
  | _, _, _ + 1, .nil => .nil
  | _, _, n + 1, .cons h hs => .cons h (RepL.take n hs)
theorem RepL.drop : ∀ {vs : List V} {xs : List PV} (n : Nat), RepL K cl H vs xs → RepL K cl H (vs.drop n) (xs.drop n)
  | _, _, 0, h => h
  | _, _, _ + 1, .nil => .nil
  | _, _, n + 1, .cons _ hs => RepL.drop n hs
theorem RepL.set : ∀ {vs : List V} {xs : List PV} {v : V} {x : PV} (n : Nat), RepL K cl H vs xs → Rep K cl H v x → RepL K cl H (vs.set n v) (xs.set n x)
  | _, _, _, _, _, .nil, _ => .nil
  | _, _, _, _, 0, .cons _ hs, k => .cons k hs
  | _, _, _, _, n + 1, .cons h hs, k => .cons h (RepL.set n hs k)
theorem RepF.lookup : ∀ {vs : List (Str × V)} {xs : List (Str × PV)} {f : Str} {x : PV}, RepF K cl H vs xs → xs.lookup f = some x → ∃ v, vs.lookup f = some v ∧ Rep K cl H v x
  | _, _, _, _, .nil, e => by simp at e
  | _, _, f, x, .cons (f := g) (vs := vs) (xs := xs) h hs, e => by
    by_cases q : f == g
    · simp only [List.lookup, q] at e ⊢
      cases e
      exact ⟨_, rfl, h⟩
    · simp only [List.lookup, q] at e ⊢
      exact RepF.lookup hs e
theorem RepF.lookup_none : ∀ {vs : List (Str × V)} {xs : List (Str × PV)} {f : Str}, RepF K cl H vs xs → xs.lookup f = none → vs.lookup f = none
  | _, _, _, .nil, e => by simp
  | _, _, f, .cons (f := g) (vs := vs) (xs := xs) h hs, e => by
    by_cases q : f == g
    · simp only [List.lookup, q] at e
      cases e
    · simp only [List.lookup, q] at e ⊢
      exact RepF.lookup_none hs e
theorem RepF.length : ∀ {vs : List (Str × V)} {xs : List (Str × PV)}, RepF K cl H vs xs → vs.length = xs.length
  | _, _, .nil => rfl
  | _, _, .cons _ hs => by rw [List.length_cons, List.length_cons, RepF.length hs]
end

/-! ### stores -/
/-- a slot's content: a plain value; an own fresh object; an object that a caller handed in to be changed -/
inductive SV where
  | p (x : PV) | o (x : PV) | i (x : PV)
abbrev Sto := List (Option SV)
structure Fr where
  G0 : Hp
  H0 : Hp
  io : Nat → Option Addr
  /-- objects on the way of being made -/
  R : Addr → Option HO
/-- the present content of an object that may change -/
def OwnAt (K : PySem.W.Frag) (cl : Nat → Addr) (G H : Hp) (a : Addr) : PV → Prop
  | .lst xs => ∃ vs, H a = some (.lst vs) ∧ vs.length ≤ sizeLine ∧ RepL K cl G vs xs
  | .dct kvs => ∃ gs, H a = some (.dK gs) ∧ RepK K cl G gs kvs
  | .obj c fs => ∃ dx gs, H a = some (.ins (cl c) dx gs) ∧ RepF K cl G gs fs
  | _ => False
structure StOk (K : PySem.W.Frag) (cl : Nat → Addr) (F : Fr) (G H : Hp) (σ : L2.St) (S : Sto) : Prop where
  ex : Same G H
  ex0 : Same F.G0 G
  len : σ.length = S.length
  val : ∀ (i : Nat) (x : PV), S[i]? = some (some (.p x)) → ∃ v : V, σ[i]? = some (some v) ∧ Rep K cl G v x
  own : ∀ (i : Nat) (x : PV), S[i]? = some (some (.o x)) → ∃ a : Addr, σ[i]? = some (some (V.ref a)) ∧ G a = none ∧ F.H0 a = none ∧ OwnAt K cl G H a x
  inn : ∀ (i : Nat) (x : PV), S[i]? = some (some (.i x)) → ∃ a : Addr, σ[i]? = some (some (V.ref a)) ∧ G a = none ∧ F.io i = some a ∧ OwnAt K cl G H a x
  dist : ∀ (i j : Nat) (a : Addr) (x y : PV), S[i]? = some (some (.o x)) → S[j]? = some (some (.o y)) → σ[i]? = some (some (V.ref a)) → σ[j]? = some (some (V.ref a)) → i = j
  io : ∀ (i : Nat) (a : Addr), F.io i = some a → ∃ x, S[i]? = some (some (.i x))
  ioh : ∀ (i : Nat) (a : Addr), F.io i = some a → ∃ o, F.H0 a = some o
  iod : ∀ (i j : Nat) (a : Addr), F.io i = some a → F.io j = some a → i = j
  frame : ∀ (a : Addr) (o : HO), F.H0 a = some o → (∀ i, F.io i ≠ some a) → H a = some o
  gnew : ∀ (a : Addr) (o : HO), G a = some o → F.G0 a = some o ∨ F.H0 a = none
  rsv : ∀ (a : Addr) (o : HO), F.R a = some o → H a = some o ∧ G a = none ∧ F.H0 a = none ∧ ∀ (i : Nat) (x : PV), S[i]? = some (some (.o x)) → σ[i]? ≠ some (some (V.ref a))

theorem OwnAt.mono {K : PySem.W.Frag} {cl : Nat → Addr} {G G' H H' : Hp} {a : Addr} {x : PV} (e : Same G G') (h : H' a = H a) (q : OwnAt K cl G H a x) : OwnAt K cl G' H' a x := by
  cases x <;> try exact q
  · obtain ⟨vs, e1, z, r⟩ := q
    exact ⟨vs, h.trans e1, z, r.mono e⟩
  · obtain ⟨vs, e1, r⟩ := q
    exact ⟨vs, h.trans e1, r.mono e⟩
  · obtain ⟨dx, vs, e1, r⟩ := q
    exact ⟨dx, vs, h.trans e1, r.mono e⟩
theorem OwnAt.there {K : PySem.W.Frag} {cl : Nat → Addr} {G H : Hp} {a : Addr} {x : PV} (q : OwnAt K cl G H a x) : ∃ o, H a = some o := by
  cases x <;> try exact q.elim
  · obtain ⟨vs, e1, z, r⟩ := q
    exact ⟨_, e1⟩
  · obtain ⟨vs, e1, r⟩ := q
    exact ⟨_, e1⟩
  · obtain ⟨dx, vs, e1, r⟩ := q
    exact ⟨_, e1⟩
theorem same_new {H : Hp} {p : Addr} {o : HO} (h : H p = none) : Same H (upd H p o) := fun a u e => by
  rw [upd_ne (ne_of_none e h)]
  exact e
theorem same_upd {G H : Hp} {p : Addr} {o : HO} (e : Same G H) : Same (upd G p o) (upd H p o) := fun a u q => by
  by_cases z : a = p
  · subst z
    rw [upd_same] at q ⊢
    exact q
  · rw [upd_ne z] at q ⊢
    exact e a u q
theorem same_mut {G H : Hp} {p : Addr} {o : HO} (e : Same G H) (h : G p = none) : Same G (upd H p o) := fun a u q => by
  rw [upd_ne (ne_of_none q h)]
  exact e a u q

section
variable {K : PySem.W.Frag} {cl : Nat → Addr} {F : Fr} {G H : Hp} {σ : L2.St} {S : Sto} {p : Addr} {o : HO}
theorem StOk.free (k : StOk K cl F G H σ S) (h : H p = none) : G p = none := k.ex.free h
theorem StOk.free0 (k : StOk K cl F G H σ S) (h : H p = none) : F.H0 p = none := by
  cases q : F.H0 p with
  | none => rfl
  | some u =>
    have no : ∀ i, F.io i ≠ some p := fun i hi => by
      obtain ⟨x, hx⟩ := k.io i p hi
      obtain ⟨a, _, _, e, w⟩ := k.inn i x hx
      rw [hi] at e
      cases e
      obtain ⟨o, z⟩ := w.there
      rw [h] at z
      cases z
    rw [k.frame p u q no] at h
    cases h
/-- a new object, plain (in G) -/
theorem StOk.alloc (k : StOk K cl F G H σ S) (h : H p = none) : StOk K cl F (upd G p o) (upd H p o) σ S := by
  have hg := k.free h
  have h0 := k.free0 h
  have sg : Same G (upd G p o) := same_new hg
  have na : ∀ {a : Addr} {x : PV}, OwnAt K cl G H a x → a ≠ p := fun q z => by
    obtain ⟨o, e⟩ := q.there
    rw [z, h] at e
    cases e
  refine ⟨same_upd k.ex, k.ex0.trans sg, k.len, fun i x e => ?_, fun i x e => ?_, fun i x e => ?_, k.dist, k.io, k.ioh, k.iod, fun a u e n => ?_, fun a u e => ?_, fun a u e => ?_⟩
  · obtain ⟨v, e1, r⟩ := k.val i x e
    exact ⟨v, e1, r.mono sg⟩
  · obtain ⟨a, e1, ga, ha, q⟩ := k.own i x e
    exact ⟨a, e1, by rw [upd_ne (na q)]; exact ga, ha, q.mono sg (upd_ne (na q))⟩
  · obtain ⟨a, e1, ga, ha, q⟩ := k.inn i x e
    exact ⟨a, e1, by rw [upd_ne (na q)]; exact ga, ha, q.mono sg (upd_ne (na q))⟩
  · rw [upd_ne (fun z => by rw [z, h0] at e; cases e)]
    exact k.frame a u e n
  · by_cases z : a = p
    · rw [z]; exact .inr h0
    · rw [upd_ne z] at e
      exact k.gnew a u e
  · obtain ⟨r1, r2, r3, r4⟩ := k.rsv a u e
    have ne : a ≠ p := fun z => by rw [z, h] at r1; cases r1
    exact ⟨by rw [upd_ne ne]; exact r1, by rw [upd_ne ne]; exact r2, r3, r4⟩
/-- a new object, not in G -/
theorem StOk.allocO (k : StOk K cl F G H σ S) (h : H p = none) : StOk K cl F G (upd H p o) σ S := by
  have hg := k.free h
  have h0 := k.free0 h
  have na : ∀ {a : Addr} {x : PV}, OwnAt K cl G H a x → a ≠ p := fun q z => by
    obtain ⟨o, e⟩ := q.there
    rw [z, h] at e
    cases e
  refine ⟨same_mut k.ex hg, k.ex0, k.len, k.val, fun i x e => ?_, fun i x e => ?_, k.dist, k.io, k.ioh, k.iod, fun a u e n => ?_, k.gnew, fun a u e => ?_⟩
  · obtain ⟨a, e1, ga, ha, q⟩ := k.own i x e
    exact ⟨a, e1, ga, ha, q.mono (Same.refl _) (upd_ne (na q))⟩
  · obtain ⟨a, e1, ga, ha, q⟩ := k.inn i x e
    exact ⟨a, e1, ga, ha, q.mono (Same.refl _) (upd_ne (na q))⟩
  · rw [upd_ne (fun z => by rw [z, h0] at e; cases e)]
    exact k.frame a u e n
  · obtain ⟨r1, r2, r3, r4⟩ := k.rsv a u e
    have ne : a ≠ p := fun z => by rw [z, h] at r1; cases r1
    exact ⟨by rw [upd_ne ne]; exact r1, r2, r3, r4⟩
/-- an object that is in nobody's hands (not in G, in no slot, not of the entry) changes -/
theorem StOk.mutO (k : StOk K cl F G H σ S) (hg : G p = none) (h0 : F.H0 p = none) (hR : F.R p = none) (hn : ∀ (i : Nat) (x : PV), S[i]? = some (some (.o x)) → σ[i]? ≠ some (some (V.ref p))) : StOk K cl F G (upd H p o) σ S := by
  refine ⟨same_mut k.ex hg, k.ex0, k.len, k.val, fun i x e => ?_, fun i x e => ?_, k.dist, k.io, k.ioh, k.iod, fun a u e n => ?_, k.gnew, fun a u e => ?_⟩
  · obtain ⟨a, e1, ga, ha, q⟩ := k.own i x e
    have ne : a ≠ p := fun z => hn i x e (by rw [← z]; exact e1)
    exact ⟨a, e1, ga, ha, q.mono (Same.refl _) (upd_ne ne)⟩
  · obtain ⟨a, e1, ga, ha, q⟩ := k.inn i x e
    have ne : a ≠ p := fun z => by
      obtain ⟨u, hu⟩ := k.ioh i a ha
      rw [z, h0] at hu
      cases hu
    exact ⟨a, e1, ga, ha, q.mono (Same.refl _) (upd_ne ne)⟩
  · rw [upd_ne (fun z => by rw [z, h0] at e; cases e)]
    exact k.frame a u e n
  · obtain ⟨r1, r2, r3, r4⟩ := k.rsv a u e
    have ne : a ≠ p := fun z => by rw [z, hR] at e; cases e
    exact ⟨by rw [upd_ne ne]; exact r1, r2, r3, r4⟩
theorem set_get {α : Type} {l : List α} {i j : Nat} {x y : α} (h : (l.set i x)[j]? = some y) : (j = i ∧ y = x ∧ i < l.length) ∨ (j ≠ i ∧ l[j]? = some y) := by
  by_cases e : j = i
  · subst e
    by_cases z : j < l.length
    · rw [List.getElem?_set_self z] at h
      exact .inl ⟨rfl, (Option.some.inj h).symm, z⟩
    · rw [List.getElem?_eq_none (by rw [List.length_set]; omega)] at h
      cases h
  · rw [List.getElem?_set_ne (Ne.symm e)] at h
    exact .inr ⟨e, h⟩
/-- x = e, a plain value -/
theorem StOk.setp (k : StOk K cl F G H σ S) {i : Nat} {v : V} {x : PV} (r : Rep K cl G v x) (hi : F.io i = none) : StOk K cl F G H (σ.set i (some v)) (S.set i (some (.p x))) := by
  have up : ∀ {j : Nat} {y : SV}, j ≠ i → ∀ {w : Option V}, σ[j]? = some w → (σ.set i (some v))[j]? = some w := fun {j y} n {w} e => by rw [List.getElem?_set_ne (Ne.symm n)]; exact e
  have dn : ∀ {j : Nat}, j ≠ i → ∀ {w : Option V}, (σ.set i (some v))[j]? = some w → σ[j]? = some w := fun {j} n {w} e => by rw [List.getElem?_set_ne (Ne.symm n)] at e; exact e
  refine ⟨k.ex, k.ex0, by rw [List.length_set, List.length_set]; exact k.len, fun j y e => ?_, fun j y e => ?_, fun j y e => ?_, fun j l a y z e1 e2 e3 e4 => ?_, fun j a e => ?_, k.ioh, k.iod, k.frame, k.gnew, fun a u e => ?_⟩
  · rcases set_get e with ⟨rfl, q, lt⟩ | ⟨n, q⟩
    · cases q
      exact ⟨v, List.getElem?_set_self (by rw [k.len]; exact lt), r⟩
    · obtain ⟨u, e1, r1⟩ := k.val j y q
      exact ⟨u, up (y := .p y) n e1, r1⟩
  · rcases set_get e with ⟨rfl, q, lt⟩ | ⟨n, q⟩
    · cases q
    · obtain ⟨a, e1, r1⟩ := k.own j y q
      exact ⟨a, up (y := .p y) n e1, r1⟩
  · rcases set_get e with ⟨rfl, q, lt⟩ | ⟨n, q⟩
    · cases q
    · obtain ⟨a, e1, r1⟩ := k.inn j y q
      exact ⟨a, up (y := .p y) n e1, r1⟩
  · rcases set_get e1 with ⟨rfl, q, lt⟩ | ⟨n, q⟩
    · cases q
    · rcases set_get e2 with ⟨rfl, q2, lt⟩ | ⟨n2, q2⟩
      · cases q2
      · exact k.dist j l a y z q q2 (dn n e3) (dn n2 e4)
  · obtain ⟨x, hx⟩ := k.io j a e
    refine ⟨x, ?_⟩
    rw [List.getElem?_set_ne (fun z => by rw [← z, hi] at e; cases e)]
    exact hx
  · obtain ⟨r1, r2, r3, r4⟩ := k.rsv a u e
    refine ⟨r1, r2, r3, fun j y q z => ?_⟩
    rcases set_get q with ⟨rfl, q', lt⟩ | ⟨n, q'⟩
    · cases q'
    · exact r4 j y q' (dn n z)
/-- a slot is forgotten -/
theorem StOk.drop (k : StOk K cl F G H σ S) {i : Nat} {w : Option V} (hi : F.io i = none) : StOk K cl F G H (σ.set i w) (S.set i none) := by
  have up : ∀ {j : Nat}, j ≠ i → ∀ {u : Option V}, σ[j]? = some u → (σ.set i w)[j]? = some u := fun {j} n {u} e => by rw [List.getElem?_set_ne (Ne.symm n)]; exact e
  have dn : ∀ {j : Nat}, j ≠ i → ∀ {u : Option V}, (σ.set i w)[j]? = some u → σ[j]? = some u := fun {j} n {u} e => by rw [List.getElem?_set_ne (Ne.symm n)] at e; exact e
  refine ⟨k.ex, k.ex0, by rw [List.length_set, List.length_set]; exact k.len, fun j y e => ?_, fun j y e => ?_, fun j y e => ?_, fun j l a y z e1 e2 e3 e4 => ?_, fun j a e => ?_, k.ioh, k.iod, k.frame, k.gnew, fun a u e => ?_⟩
  · rcases set_get e with ⟨rfl, q, lt⟩ | ⟨n, q⟩
    · cases q
    · obtain ⟨u, e1, r1⟩ := k.val j y q
      exact ⟨u, up n e1, r1⟩
  · rcases set_get e with ⟨rfl, q, lt⟩ | ⟨n, q⟩
    · cases q
    · obtain ⟨a, e1, r1⟩ := k.own j y q
      exact ⟨a, up n e1, r1⟩
  · rcases set_get e with ⟨rfl, q, lt⟩ | ⟨n, q⟩
    · cases q
    · obtain ⟨a, e1, r1⟩ := k.inn j y q
      exact ⟨a, up n e1, r1⟩
  · rcases set_get e1 with ⟨rfl, q, lt⟩ | ⟨n, q⟩
    · cases q
    · rcases set_get e2 with ⟨rfl, q2, lt⟩ | ⟨n2, q2⟩
      · cases q2
      · exact k.dist j l a y z q q2 (dn n e3) (dn n2 e4)
  · obtain ⟨x, hx⟩ := k.io j a e
    refine ⟨x, ?_⟩
    rw [List.getElem?_set_ne (fun z => by rw [← z, hi] at e; cases e)]
    exact hx
  · obtain ⟨r1, r2, r3, r4⟩ := k.rsv a u e
    refine ⟨r1, r2, r3, fun j y q z => ?_⟩
    rcases set_get q with ⟨rfl, q', lt⟩ | ⟨n, q'⟩
    · cases q'
    · exact r4 j y q' (dn n z)
/-- x = a fresh object, which may change -/
theorem StOk.seto (k : StOk K cl F G H σ S) {i : Nat} {a : Addr} {x : PV} (hg : G a = none) (h0 : F.H0 a = none) (hR : F.R a = none) (hn : ∀ (j : Nat) (y : PV), S[j]? = some (some (.o y)) → σ[j]? ≠ some (some (V.ref a))) (q : OwnAt K cl G H a x) (hi : F.io i = none) :
    StOk K cl F G H (σ.set i (some (V.ref a))) (S.set i (some (.o x))) := by
  have up : ∀ {j : Nat}, j ≠ i → ∀ {u : Option V}, σ[j]? = some u → (σ.set i (some (V.ref a)))[j]? = some u := fun {j} n {u} e => by rw [List.getElem?_set_ne (Ne.symm n)]; exact e
  have dn : ∀ {j : Nat}, j ≠ i → ∀ {u : Option V}, (σ.set i (some (V.ref a)))[j]? = some u → σ[j]? = some u := fun {j} n {u} e => by rw [List.getElem?_set_ne (Ne.symm n)] at e; exact e
  have self : i < S.length → (σ.set i (some (V.ref a)))[i]? = some (some (V.ref a)) := fun lt => List.getElem?_set_self (by rw [k.len]; exact lt)
  refine ⟨k.ex, k.ex0, by rw [List.length_set, List.length_set]; exact k.len, fun j y e => ?_, fun j y e => ?_, fun j y e => ?_, fun j l b y z e1 e2 e3 e4 => ?_, fun j b e => ?_, k.ioh, k.iod, k.frame, k.gnew, fun b u e => ?_⟩
  · rcases set_get e with ⟨rfl, q, lt⟩ | ⟨n, q⟩
    · cases q
    · obtain ⟨u, e1, r1⟩ := k.val j y q
      exact ⟨u, up n e1, r1⟩
  · rcases set_get e with ⟨rfl, q', lt⟩ | ⟨n, q⟩
    · cases q'
      exact ⟨a, self lt, hg, h0, q⟩
    · obtain ⟨b, e1, r1⟩ := k.own j y q
      exact ⟨b, up n e1, r1⟩
  · rcases set_get e with ⟨rfl, q, lt⟩ | ⟨n, q⟩
    · cases q
    · obtain ⟨b, e1, r1⟩ := k.inn j y q
      exact ⟨b, up n e1, r1⟩
  · rcases set_get e1 with ⟨z1, q, lt⟩ | ⟨n, q⟩
    · subst z1
      rcases set_get e2 with ⟨z2, q2, lt2⟩ | ⟨n2, q2⟩
      · exact z2.symm
      · rw [self lt] at e3
        cases e3
        exact absurd (dn n2 e4) (hn l z q2)
    · rcases set_get e2 with ⟨z2, q2, lt⟩ | ⟨n2, q2⟩
      · subst z2
        rw [self lt] at e4
        cases e4
        exact absurd (dn n e3) (hn j y q)
      · exact k.dist j l b y z q q2 (dn n e3) (dn n2 e4)
  · obtain ⟨x, hx⟩ := k.io j b e
    refine ⟨x, ?_⟩
    rw [List.getElem?_set_ne (fun z => by rw [← z, hi] at e; cases e)]
    exact hx
  · obtain ⟨r1, r2, r3, r4⟩ := k.rsv b u e
    refine ⟨r1, r2, r3, fun j y q z => ?_⟩
    rcases set_get q with ⟨rfl, q', lt⟩ | ⟨n, q'⟩
    · rw [self lt] at z
      cases z
      rw [hR] at e
      cases e
    · exact r4 j y q' (dn n z)
/-- the own object of slot i changes -/
theorem StOk.chg (k : StOk K cl F G H σ S) {i : Nat} {a : Addr} {x y : PV} (hs : S[i]? = some (some (.o x))) (ha : σ[i]? = some (some (V.ref a))) (q : OwnAt K cl G (upd H a o) a y) : StOk K cl F G (upd H a o) σ (S.set i (some (.o y))) := by
  obtain ⟨a', e1, ga, h0, w⟩ := k.own i x hs
  rw [ha] at e1
  cases e1
  refine ⟨same_mut k.ex ga, k.ex0, by rw [List.length_set]; exact k.len, fun j z e => ?_, fun j z e => ?_, fun j z e => ?_, fun j l b y' z e1 e2 e3 e4 => ?_, fun j b e => ?_, k.ioh, k.iod, fun b u e n => ?_, k.gnew, fun b u e => ?_⟩
  · rcases set_get e with ⟨rfl, q, lt⟩ | ⟨n, q⟩
    · cases q
    · exact k.val j z q
  · rcases set_get e with ⟨rfl, q', lt⟩ | ⟨n, q'⟩
    · cases q'
      exact ⟨a, ha, ga, h0, q⟩
    · obtain ⟨b, e1, gb, hb, w'⟩ := k.own j z q'
      have ne : b ≠ a := fun zz => n (k.dist j i b z x q' hs e1 (by rw [zz]; exact ha))
      exact ⟨b, e1, gb, hb, w'.mono (Same.refl _) (upd_ne ne)⟩
  · rcases set_get e with ⟨rfl, q, lt⟩ | ⟨n, q'⟩
    · cases q
    · obtain ⟨b, e1, gb, hb, w'⟩ := k.inn j z q'
      have ne : b ≠ a := fun zz => by
        obtain ⟨u, hu⟩ := k.ioh j b hb
        rw [zz, h0] at hu
        cases hu
      exact ⟨b, e1, gb, hb, w'.mono (Same.refl _) (upd_ne ne)⟩
  · have hj : ∃ y0, S[j]? = some (some (.o y0)) := by
      rcases set_get e1 with ⟨rfl, q, lt⟩ | ⟨n, q⟩
      · exact ⟨x, hs⟩
      · exact ⟨_, q⟩
    have hl : ∃ y0, S[l]? = some (some (.o y0)) := by
      rcases set_get e2 with ⟨rfl, q, lt⟩ | ⟨n, q⟩
      · exact ⟨x, hs⟩
      · exact ⟨_, q⟩
    obtain ⟨y1, h1⟩ := hj
    obtain ⟨y2, h2⟩ := hl
    exact k.dist j l b y1 y2 h1 h2 e3 e4
  · obtain ⟨x', hx⟩ := k.io j b e
    refine ⟨x', ?_⟩
    rw [List.getElem?_set_ne (fun z => by rw [← z, hs] at hx; cases hx)]
    exact hx
  · rw [upd_ne (fun z => by rw [z, h0] at e; cases e)]
    exact k.frame b u e n
  · obtain ⟨r1, r2, r3, r4⟩ := k.rsv b u e
    have ne : b ≠ a := fun z => r4 i x hs (by rw [z]; exact ha)
    refine ⟨by rw [upd_ne ne]; exact r1, r2, r3, fun j y' q' z => ?_⟩
    rcases set_get q' with ⟨rfl, q2, lt⟩ | ⟨n, q2⟩
    · exact r4 j x hs z
    · exact r4 j y' q2 z
/-- the handed object of slot i changes -/
theorem StOk.chgi (k : StOk K cl F G H σ S) {i : Nat} {a : Addr} {x y : PV} (hs : S[i]? = some (some (.i x))) (ha : σ[i]? = some (some (V.ref a))) (q : OwnAt K cl G (upd H a o) a y) : StOk K cl F G (upd H a o) σ (S.set i (some (.i y))) := by
  obtain ⟨a', e1, ga, hio, w⟩ := k.inn i x hs
  rw [ha] at e1
  cases e1
  refine ⟨same_mut k.ex ga, k.ex0, by rw [List.length_set]; exact k.len, fun j z e => ?_, fun j z e => ?_, fun j z e => ?_, fun j l b y' z e1 e2 e3 e4 => ?_, fun j b e => ?_, k.ioh, k.iod, fun b u e n => ?_, k.gnew, fun b u e => ?_⟩
  · rcases set_get e with ⟨rfl, q, lt⟩ | ⟨n, q⟩
    · cases q
    · exact k.val j z q
  · rcases set_get e with ⟨rfl, q', lt⟩ | ⟨n, q'⟩
    · cases q'
    · obtain ⟨b, e1, gb, hb, w'⟩ := k.own j z q'
      have ne : b ≠ a := fun zz => by
        obtain ⟨u, hu⟩ := k.ioh i a hio
        rw [← zz, hb] at hu
        cases hu
      exact ⟨b, e1, gb, hb, w'.mono (Same.refl _) (upd_ne ne)⟩
  · rcases set_get e with ⟨rfl, q', lt⟩ | ⟨n, q'⟩
    · cases q'
      exact ⟨a, ha, ga, hio, q⟩
    · obtain ⟨b, e1, gb, hb, w'⟩ := k.inn j z q'
      have ne : b ≠ a := fun zz => n (k.iod j i b hb (by rw [zz]; exact hio))
      exact ⟨b, e1, gb, hb, w'.mono (Same.refl _) (upd_ne ne)⟩
  · rcases set_get e1 with ⟨rfl, q, lt⟩ | ⟨n, q1⟩
    · cases q
    · rcases set_get e2 with ⟨rfl, q, lt⟩ | ⟨n, q2⟩
      · cases q
      · exact k.dist j l b _ _ q1 q2 e3 e4
  · by_cases z : j = i
    · subst z
      exact ⟨y, List.getElem?_set_self ((List.getElem?_eq_some_iff.mp hs).1)⟩
    · obtain ⟨x', hx⟩ := k.io j b e
      exact ⟨x', by rw [List.getElem?_set_ne (Ne.symm z)]; exact hx⟩
  · rw [upd_ne (fun z => n i (by rw [z]; exact hio))]
    exact k.frame b u e n
  · obtain ⟨r1, r2, r3, r4⟩ := k.rsv b u e
    have ne : b ≠ a := fun z => by
      obtain ⟨u', hu⟩ := k.ioh i a hio
      rw [← z, r3] at hu
      cases hu
    refine ⟨by rw [upd_ne ne]; exact r1, r2, r3, fun j y' q' z => ?_⟩
    rcases set_get q' with ⟨rfl, q2, lt⟩ | ⟨n, q2⟩
    · cases q2
    · exact r4 j y' q2 z
/-- an own fresh object is plain from now on -/
theorem own_freeze {K : PySem.W.Frag} {cl : Nat → Addr} {G H : Hp} {a : Addr} {x : PV} (hg : G a = none) (q : OwnAt K cl G H a x) : ∃ o, H a = some o ∧ Rep K cl (upd G a o) (V.ref a) x := by
  have sg : ∀ o, Same G (upd G a o) := fun o => same_new hg
  cases x <;> try exact q.elim
  · obtain ⟨vs, e1, z, r⟩ := q
    exact ⟨_, e1, .lst upd_same z (r.mono (sg _))⟩
  · obtain ⟨vs, e1, r⟩ := q
    exact ⟨_, e1, .dct upd_same (r.mono (sg _))⟩
  · obtain ⟨dx, vs, e1, r⟩ := q
    exact ⟨_, e1, .obj upd_same (r.mono (sg _))⟩
theorem StOk.freeze (k : StOk K cl F G H σ S) {i : Nat} {x : PV} (hs : S[i]? = some (some (.o x))) : ∃ (a : Addr) (o : HO), σ[i]? = some (some (V.ref a)) ∧ Same G (upd G a o) ∧ Rep K cl (upd G a o) (V.ref a) x ∧ StOk K cl F (upd G a o) H σ (S.set i (some (.p x))) := by
  obtain ⟨a, ea, ga, h0, w⟩ := k.own i x hs
  obtain ⟨o, ho, r⟩ := own_freeze ga w
  have sg : Same G (upd G a o) := same_new ga
  refine ⟨a, o, ea, sg, r, fun b u e => ?_, k.ex0.trans sg, by rw [List.length_set]; exact k.len, fun j z e => ?_, fun j z e => ?_, fun j z e => ?_, fun j l b y' z e1 e2 e3 e4 => ?_, fun j b e => ?_, k.ioh, k.iod, k.frame, fun b u e => ?_, fun b u e => ?_⟩
  · by_cases z : b = a
    · subst z
      rw [upd_same] at e
      rw [← e]; exact ho
    · rw [upd_ne z] at e
      exact k.ex b u e
  · rcases set_get e with ⟨rfl, q, lt⟩ | ⟨n, q⟩
    · cases q
      exact ⟨_, ea, r⟩
    · obtain ⟨v, e1, r1⟩ := k.val j z q
      exact ⟨v, e1, r1.mono sg⟩
  · rcases set_get e with ⟨rfl, q', lt⟩ | ⟨n, q'⟩
    · cases q'
    · obtain ⟨b, e1, gb, hb, w'⟩ := k.own j z q'
      have ne : b ≠ a := fun zz => n (k.dist j i b z x q' hs e1 (by rw [zz]; exact ea))
      exact ⟨b, e1, by rw [upd_ne ne]; exact gb, hb, w'.mono sg rfl⟩
  · rcases set_get e with ⟨rfl, q, lt⟩ | ⟨n, q'⟩
    · cases q
    · obtain ⟨b, e1, gb, hb, w'⟩ := k.inn j z q'
      have ne : b ≠ a := fun zz => by
        obtain ⟨u, hu⟩ := k.ioh j b hb
        rw [zz, h0] at hu
        cases hu
      exact ⟨b, e1, by rw [upd_ne ne]; exact gb, hb, w'.mono sg rfl⟩
  · rcases set_get e1 with ⟨rfl, q, lt⟩ | ⟨n, q1⟩
    · cases q
    · rcases set_get e2 with ⟨rfl, q, lt⟩ | ⟨n, q2⟩
      · cases q
      · exact k.dist j l b _ _ q1 q2 e3 e4
  · obtain ⟨x', hx⟩ := k.io j b e
    refine ⟨x', ?_⟩
    rw [List.getElem?_set_ne (fun z => by rw [← z, hs] at hx; cases hx)]
    exact hx
  · by_cases z : b = a
    · rw [z]; exact .inr h0
    · rw [upd_ne z] at e
      exact k.gnew b u e
  · obtain ⟨r1, r2, r3, r4⟩ := k.rsv b u e
    have ne : b ≠ a := fun z => r4 i x hs (by rw [z]; exact ea)
    refine ⟨r1, by rw [upd_ne ne]; exact r2, r3, fun j y' q' z => ?_⟩
    rcases set_get q' with ⟨rfl, q2, lt⟩ | ⟨n, q2⟩
    · cases q2
    · exact r4 j y' q2 z
/-- a new object is reserved -/
theorem StOk.rsvNew (k : StOk K cl F G H σ S) (h : H p = none) (hs : ∀ (i : Nat) (x : PV), S[i]? = some (some (.o x)) → σ[i]? ≠ some (some (V.ref p))) : StOk K cl { F with R := fun b => if b = p then some o else F.R b } G (upd H p o) σ S := by
  have k' := k.allocO (o := o) h
  refine ⟨k'.ex, k'.ex0, k'.len, k'.val, k'.own, k'.inn, k'.dist, k'.io, k'.ioh, k'.iod, k'.frame, k'.gnew, fun a u e => ?_⟩
  dsimp only at e
  split at e
  · rename_i z
    cases e
    rw [z]
    exact ⟨upd_same, k.free h, k.free0 h, hs⟩
  · exact k'.rsv a u e
/-- .. changes -/
theorem StOk.rsvSet {o o' : HO} {R : Addr → Option HO} (k : StOk K cl { F with R := fun b => if b = p then some o else R b } G H σ S) : StOk K cl { F with R := fun b => if b = p then some o' else R b } G (upd H p o') σ S := by
  obtain ⟨r1, r2, r3, r4⟩ := k.rsv p o (if_pos rfl)
  have e1 : Same G (upd H p o') := same_mut k.ex r2
  have ne : ∀ {a : Addr} {x : PV} {i : Nat}, S[i]? = some (some (.o x)) → σ[i]? = some (some (V.ref a)) → a ≠ p := fun h1 h2 z => r4 _ _ h1 (by rw [← z]; exact h2)
  refine ⟨e1, k.ex0, k.len, k.val, fun i x e => ?_, fun i x e => ?_, k.dist, k.io, k.ioh, k.iod, fun a u e n => ?_, k.gnew, fun a u e => ?_⟩
  · obtain ⟨a, e1, ga, ha, q⟩ := k.own i x e
    exact ⟨a, e1, ga, ha, q.mono (Same.refl _) (upd_ne (ne e e1))⟩
  · obtain ⟨a, e1, ga, ha, q⟩ := k.inn i x e
    have ne : a ≠ p := fun z => by
      obtain ⟨u, hu⟩ := k.ioh i a ha
      rw [z] at hu
      have r3' : F.H0 p = none := r3
      have hu' : F.H0 p = some u := hu
      rw [r3'] at hu'
      cases hu'
    exact ⟨a, e1, ga, ha, q.mono (Same.refl _) (upd_ne ne)⟩
  · rw [upd_ne (fun z => by rw [z] at e; have r3' : F.H0 p = none := r3; have e' : F.H0 p = some u := e; rw [r3'] at e'; cases e')]
    exact k.frame a u e n
  · dsimp only at e
    split at e
    · rename_i z
      cases e
      rw [z]
      exact ⟨upd_same, r2, r3, r4⟩
    · rename_i z
      obtain ⟨s1, s2, s3, s4⟩ := k.rsv a u (by dsimp only; rw [if_neg z]; exact e)
      exact ⟨by rw [upd_ne z]; exact s1, s2, s3, s4⟩
/-- .. is plain from now on -/
theorem StOk.rsvEnd {o : HO} (k : StOk K cl { F with R := fun b => if b = p then some o else F.R b } G H σ S) (hR : F.R p = none) : StOk K cl F (upd G p o) H σ S ∧ G p = none := by
  obtain ⟨r1, r2, r3, r4⟩ := k.rsv p o (if_pos rfl)
  have sg : Same G (upd G p o) := same_new r2
  refine ⟨⟨fun b u e => ?_, k.ex0.trans sg, k.len, fun i x e => ?_, fun i x e => ?_, fun i x e => ?_, k.dist, k.io, k.ioh, k.iod, k.frame, fun a u e => ?_, fun a u e => ?_⟩, r2⟩
  · by_cases z : b = p
    · subst z
      rw [upd_same] at e
      rw [← e]
      exact r1
    · rw [upd_ne z] at e
      exact k.ex b u e
  · obtain ⟨v, e1, r⟩ := k.val i x e
    exact ⟨v, e1, r.mono sg⟩
  · obtain ⟨a, e1, ga, ha, q⟩ := k.own i x e
    have ne : a ≠ p := fun z => r4 _ _ e (by rw [← z]; exact e1)
    exact ⟨a, e1, by rw [upd_ne ne]; exact ga, ha, q.mono sg rfl⟩
  · obtain ⟨a, e1, ga, ha, q⟩ := k.inn i x e
    have ne : a ≠ p := fun z => by
      obtain ⟨u, hu⟩ := k.ioh i a ha
      rw [z] at hu
      have r3' : F.H0 p = none := r3
      have hu' : F.H0 p = some u := hu
      rw [r3'] at hu'
      cases hu'
    exact ⟨a, e1, by rw [upd_ne ne]; exact ga, ha, q.mono sg rfl⟩
  · by_cases z : a = p
    · rw [z]; exact .inr r3
    · rw [upd_ne z] at e
      exact k.gnew a u e
  · have ne : a ≠ p := fun z => by rw [z, hR] at e; cases e
    obtain ⟨s1, s2, s3, s4⟩ := k.rsv a u (by dsimp only; rw [if_neg ne]; exact e)
    exact ⟨s1, by rw [upd_ne ne]; exact s2, s3, s4⟩
/-- .. stays with the frame: a slot takes it -/
theorem StOk.rsvOwn {o : HO} (k : StOk K cl { F with R := fun b => if b = p then some o else F.R b } G H σ S) (hR : F.R p = none) : StOk K cl F G H σ S ∧ H p = some o ∧ G p = none ∧ F.H0 p = none ∧ ∀ (i : Nat) (x : PV), S[i]? = some (some (.o x)) → σ[i]? ≠ some (some (V.ref p)) := by
  obtain ⟨r1, r2, r3, r4⟩ := k.rsv p o (if_pos rfl)
  refine ⟨⟨k.ex, k.ex0, k.len, k.val, k.own, k.inn, k.dist, k.io, k.ioh, k.iod, k.frame, k.gnew, fun a u e => ?_⟩, r1, r2, r3, r4⟩
  have ne : a ≠ p := fun z => by rw [z, hR] at e; cases e
  exact k.rsv a u (by dsimp only; rw [if_neg ne]; exact e)
theorem StOk.rfree (k : StOk K cl F G H σ S) (h : H p = none) : F.R p = none := by
  cases q : F.R p with
  | none => rfl
  | some o =>
    have := (k.rsv p o q).1
    rw [h] at this
    cases this
end
end Kp
set_option Elab.async false
set_option linter.all false
set_option maxRecDepth 100000
set_option maxHeartbeats 4000000
namespace Kp
open PySem PySem.Spec PyProof.Rows L2

/-- a set of numbers -/
inductive NSet where
  | nil
  | node (b : Bool) (l r : NSet)
def NSet.hasF : Nat → NSet → Nat → Bool
  | 0, _, _ => false
  | _ + 1, .nil, _ => false
  | f + 1, .node b l r, n => match Nat.beq n 0 with
    | true => b
    | false => match Nat.beq (n % 2) 1 with
      | true => NSet.hasF f l (n / 2)
      | false => NSet.hasF f r (n / 2 - 1)
def NSet.putF : Nat → NSet → Nat → NSet
  | 0, t, _ => t
  | f + 1, .nil, n => match Nat.beq n 0 with
    | true => .node true .nil .nil
    | false => match Nat.beq (n % 2) 1 with
      | true => .node false (NSet.putF f .nil (n / 2)) .nil
      | false => .node false .nil (NSet.putF f .nil (n / 2 - 1))
  | f + 1, .node b l r, n => match Nat.beq n 0 with
    | true => .node true l r
    | false => match Nat.beq (n % 2) 1 with
      | true => .node b (NSet.putF f l (n / 2)) r
      | false => .node b l (NSet.putF f r (n / 2 - 1))
/-- the addresses that are new, in order -/
def newOf : List Addr → NSet → List Addr → NSet × List Addr
  | [], t, acc => (t, acc.reverse)
  | a :: r, t, acc => match NSet.hasF 30 t a with
    | true => newOf r t acc
    | false => newOf r (NSet.putF 30 t a) (a :: acc)
def reachL (g : Addr → Option Obj) : Nat → NSet → List Addr → List Addr → List Addr
  | 0, _, _, acc => acc
  | n + 1, t, fr, acc => match newOf (fr.flatMap fun a => match g a with
      | some o => He.refsD o
      | none => []) t [] with
    | (t', nw) => reachL g n t' nw (acc ++ nw)
def fragK (g : Addr → Option Obj) (n : Nat) : PySem.W.Frag := He.frG g (reachL g n (NSet.putF 30 (NSet.putF 30 .nil cStatics) mainGlobals) [mainGlobals] [mainGlobals, cStatics])
/-- one def: where it stands, name, qualified name, parameters, body, scope, defaults -/
structure DefK where
  at_ : PySem.W.Frag → Addr
  name : Str
  qual : Str
  params : Arguments
  body : List Stmt
  scope : Scope
  dfl : PySem.W.Frag → List V := fun _ => []
  kwd : PySem.W.Frag → List (Str × V) := fun _ => []
def fnK (K : PySem.W.Frag) (a : Addr) : He.FnW := match K.lookup a with
  | some ⟨_, _, .func u, _⟩ => some (u.name, u.qualname, u.params, u.body, u.scope, u.globals, u.closure, u.builtins)
  | _ => none
def DefK.val (d : DefK) : He.FnW := some (d.name, d.qual, d.params, .stmts d.body, d.scope, mainGlobals, [], builtinsNs)
def DefK.ok (K : PySem.W.Frag) (d : DefK) : Bool := match K.lookup (d.at_ K) with
  | some ⟨_, _, .func u, _⟩ => PySem.W.keepIn K (.ref (d.at_ K)) && (PySem.W.codeIn K u.code d.qual && (He.dflB K u.defaults (d.dfl K) && He.kwdB K u.kwdefaults (d.kwd K)))
  | _ => false
abbrev AlK : Type := Bool × List He.FnW
def obsF (chk : PySem.W.Frag → Bool) (fn : List DefK) (K : PySem.W.Frag) : AlK := (chk K && fn.all fun d => d.ok K, fn.map fun d => fnK K (d.at_ K))
def valK (fn : List DefK) : AlK := (true, fn.map DefK.val)
def SaysK (chk : PySem.W.Frag → Bool) (fn : List DefK) (K : PySem.W.Frag) : Prop := obsF chk fn K = valK fn
def obsK (n : Nat) (chk : PySem.W.Frag → Bool) (fn : List DefK) (g : Addr → Option Obj) : AlK := obsF chk fn (fragK g n)
def hookK (n : Nat) (chk : PySem.W.Frag → Bool) (fn : List DefK) : PySem.W.Hook where
  α := AlK
  obs := fun s => obsK n chk fn s.heap.get?
  val := fun _ => valK fn
  says := fun _ h => ∃ K : PySem.W.Frag, K.In h ∧ SaysK chk fn K
  of := fun _ _ e => ⟨_, He.frG_in, e⟩
  keeps := fun _ _ _ ⟨K, hK, c⟩ k => ⟨K, hK.keeps k, c⟩
theorem obsK_eq {n : Nat} {chk : PySem.W.Frag → Bool} {fn : List DefK} (s : PySem.W.SharedT) : obsK n chk fn (HandSHeadRun.getT s) = (hookK n chk fn).obs s.abs := by
  have e : HandSHeadRun.getT s = s.abs.heap.get? := funext (HandSHeadRun.getT_eq s)
  rw [e] <;> rfl
section
variable {chk : PySem.W.Frag → Bool} {fn : List DefK} {K : PySem.W.Frag}
end
/-- a row of checks -/
def allB (l : List Bool) : Bool := l.all fun b => b
def kGlo (K : PySem.W.Frag) (x : Str) : Addr := match PySem.W.nsIn K mainGlobals x with
  | some (some (.ref a)) => a
  | _ => 0
def kMeth (K : PySem.W.Frag) (C : Addr) (m : Str) : Addr := match PySem.W.findIn K (.ref C) m with
  | some (some (.ref a)) => a
  | _ => 0
/-- what a record (classmethod, property) bears first -/
def kRec (K : PySem.W.Frag) (T : String) (p : Addr) : Addr := match PySem.W.recIn K p T with
  | some (.ref a :: _) => a
  | _ => 0
def kDfl (K : PySem.W.Frag) (f : Addr) (i : Nat) : Addr := match K.lookup f with
  | some ⟨_, _, .func u, _⟩ => (match u.defaults with
    | .ref T => (match K.lookup T with
      | some ⟨_, _, .seq its _, _⟩ => (match its.toList[i]? with
        | some (.ref a) => a
        | _ => 0)
      | _ => 0)
    | _ => 0)
  | _ => 0
def kKwd (K : PySem.W.Frag) (f : Addr) (x : Str) : Addr := match K.lookup f with
  | some ⟨_, _, .func u, _⟩ => (match u.kwdefaults with
    | .ref T => (match PySem.W.nsIn K T x with
      | some (some (.ref a)) => a
      | _ => 0)
    | _ => 0)
  | _ => 0
def bNs (K : PySem.W.Frag) (x : Str) (v : Option Value) : Bool := decide (PySem.W.nsIn K mainGlobals x = some v)
def bFind (K : PySem.W.Frag) (C : Addr) (m : Str) (v : Option Value) : Bool := decide (PySem.W.findIn K (.ref C) m = some v)
def bSub (K : PySem.W.Frag) (a b : Value) (r : Bool) : Bool := decide (PySem.W.subIn K a b = some r)
def bTyp (K : PySem.W.Frag) (a b : Value) : Bool := decide (PySem.W.typeIn K a = some b)
def bKit (K : PySem.W.Frag) (a b : Value) (r : Bool) : Bool := decide (PySem.W.kitOne K a b = some r)
def bExm (K : PySem.W.Frag) (a b : Value) (r : Bool) : Bool := decide (PySem.W.exmOne K a b = some r)
def bSpec (K : PySem.W.Frag) (a : Value) (m : Str) (v : Option Value) : Bool := decide (PySem.W.specialIn K a m = some v)
def bCls (K : PySem.W.Frag) (C : Addr) : Bool := allB [PySem.W.plainGet K C Str.empty, PySem.W.hasDictIn K C, PySem.W.plainOver K C, bFind K C "__setattr__" (some (.builtin "object.__setattr__"))]
/-- what isinstance asks of object.__class__ -/
def bOc (K : PySem.W.Frag) (C : Addr) : Bool := allB [bFind K C "__class__" (some (.builtin "object.__class__")), bSpec K (.builtin "object.__class__") "__get__" (some (.builtin "getset_descriptor.__get__")), decide (PySem.W.takesIn K (.builtin "object.__class__") = some true), decide (PySem.W.mroIn K C (.type "object") = some true)]
def bOwn (K : PySem.W.Frag) (C : Addr) : Bool := allB [bCls K C, bOc K C, PySem.W.isClsIn K C, bTyp K (.ref C) (.type "type"), bSub K (.type "NoneType") (.ref C) false, bSub K (.type "bool") (.ref C) false, bSub K (.type "int") (.ref C) false, bSub K (.type "str") (.ref C) false, bSub K (.type "tuple") (.ref C) false,
  bSub K (.type "list") (.ref C) false, bSub K (.type "dict") (.ref C) false]
def bExcC (K : PySem.W.Frag) (C : Addr) : Bool := allB [bFind K C "__getattribute__" (some (.builtin "BaseException.__getattribute__")), bFind K C "__getattr__" none, bSub K (.ref C) (.type "BaseException") true, PySem.W.hasDictIn K C, bOc K C]
def bVal (r : Option PySem.W.CFound) (v : Value) : Bool := match r with
  | some (.val u) => decide (u = v)
  | _ => false
def bGet (r : Option PySem.W.CFound) (g a o t : Value) : Bool := match r with
  | some (.get g' a' o' t') => decide ((g', a', o', t') = (g, a, o, t))
  | _ => false
def bRead (K : PySem.W.Frag) (C : Addr) : Bool := allB [PySem.W.readsIn K C (.type "type"), bSpec K (.ref C) "__getattribute__" (some (.builtin "type.__getattribute__"))]
def bBase (K : PySem.W.Frag) (C : Addr) : Bool := allB [bRead K C, bVal (PySem.W.findCls K (.ref C) (.type "type") "__init__") (.builtin "ValueError.__init__")]
def bCm (K : PySem.W.Frag) (C : Addr) (m : Str) (p g : Addr) : Bool := allB [bGet (PySem.W.findCls K (.ref C) (.type "type") m) (.builtin "classmethod.__get__") (.ref p) .none (.ref C), (match PySem.W.recIn K p "classmethod" with
  | some (.ref a :: _) => decide (a = g)
  | _ => false), PySem.W.fnIn K g]
def bMeth (K : PySem.W.Frag) (C : Addr) (m : Str) (f : Addr) : Bool := allB [bFind K C m (some (.ref f)), PySem.W.isFn K (.ref f), PySem.W.keepIn K (.ref f)]
def bMk (K : PySem.W.Frag) (C f : Addr) : Bool := allB [PySem.W.makesIn K C, bFind K C "__init__" (some (.ref f)), PySem.W.isFn K (.ref f), PySem.W.keepIn K (.ref C)]
def bCallO (K : PySem.W.Frag) (C f : Addr) : Bool := allB [bFind K C "__call__" (some (.ref f)), PySem.W.isFn K (.ref f), PySem.W.fnIn K f]
/-- an exception class: its object's form -/
def bOexO (C : Addr) (o : Option Obj) : Bool := match o with
  | some ⟨.type t, _, .cls cd, sl⟩ => (match cd.mro, sl.toList with
    | .ref C' :: bm, [_, _, _, _, some (.builtin n), _] => decide (t = "type") && (decide (C' = C) && (decide (n = "ValueError.__new__") && (!cd.hasDel && (cd.hasDict && PySem.HandSPX.refsVE bm))))
    | _, _ => false)
  | _ => false
def bOex (K : PySem.W.Frag) (C : Addr) : Bool := allB [bOexO C (K.lookup C), bFind K C "__setattr__" (some (.builtin "object.__setattr__")), bSub K (.ref C) (.type "BaseException") true, bTyp K (.ref C) (.type "type"), PySem.W.keepIn K (.ref C)]
/-- a tuple of the text's own -/
def bTup (K : PySem.W.Frag) (a : Addr) (vs : List V) : Bool := match K.lookup a with
  | some ⟨.type t, none, .seq its _, _⟩ => decide (t = "tuple") && (decide (its.size ≤ sizeLine) && He.relAll vs its.toList)
  | _ => false
def bTopStr (K : PySem.W.Frag) (x u : Str) : Bool := match PySem.W.nsIn K mainGlobals x with
  | some (some (.str y _)) => decide (y = u)
  | _ => false
def bTopTup (K : PySem.W.Frag) (x : Str) (us : List Str) : Bool := bNs K x (some (.ref (kGlo K x))) && bTup K (kGlo K x) (us.map V.str)
mutual
/-- a constant of any form -/
def bPV (K : PySem.W.Frag) : PV → Value → Bool
  | .non, u => decide (u = .none)
  | .bl b, u => decide (u = .bool b)
  | .int i, u => (match u with
    | .int j _ => decide (j = i)
    | _ => false)
  | .str x, u => (match u with
    | .str y _ => decide (y = x) && decide (x.length ≤ sizeLine)
    | _ => false)
  | .tup ys, u => (match u with
    | .ref a => (match K.lookup a with
      | some ⟨.type t, none, .seq its _, _⟩ => decide (t = "tuple") && (decide (its.size ≤ sizeLine) && bPVs K ys its.toList)
      | _ => false)
    | _ => false)
  | _, _ => false
def bPVs (K : PySem.W.Frag) : List PV → List Value → Bool
  | [], [] => true
  | y :: ys, u :: us => bPV K y u && bPVs K ys us
  | _, _ => false
end
def bTopPV (K : PySem.W.Frag) (x : Str) (y : PV) : Bool := match PySem.W.nsIn K mainGlobals x with
  | some (some u) => bPV K y u
  | _ => false
def bPr (K : PySem.W.Frag) (C : Addr) (m : Str) (p g : Addr) : Bool := allB [bFind K C m (some (.ref p)), bSpec K (.ref p) "__get__" (some (.builtin "property.__get__")), decide (PySem.W.takesIn K (.ref p) = some true), (match PySem.W.recIn K p "property" with
  | some (.ref a :: _) => decide (a = g)
  | _ => false)]
end Kp
set_option Elab.async false
set_option linter.all false
set_option maxRecDepth 100000
set_option maxHeartbeats 4000000
namespace A07
open PySem PyProof.Rows L2 Kp
def top (i : Nat) : Stmt := PySem.Challenge.pw_keptacross_k07_work_lines.main.body.getD i (.Pass ⟨0, 0, 0, 0⟩)
abbrev s_BadReading___init__ : Stmt := inClass (top 3) 0
abbrev s_BadLine___init__ : Stmt := inClass (top 4) 0
abbrev s_BadWork___init__ : Stmt := inClass (top 5) 0
abbrev s_deep : Stmt := top 7
abbrev s_is_word : Stmt := top 8
abbrev s_Lines___init__ : Stmt := inClass (top 10) 0
abbrev s_Lines_line_words : Stmt := inClass (top 10) 2
abbrev s_Lines_first_word : Stmt := inClass (top 10) 3
abbrev s_Lines_many_words : Stmt := inClass (top 10) 4
abbrev s_Lines_word_at : Stmt := inClass (top 10) 5
abbrev s_Lines_fail_at : Stmt := inClass (top 10) 7
abbrev s_Lines_want_word : Stmt := inClass (top 10) 11
abbrev s_Lines_close_at : Stmt := inClass (top 10) 12
abbrev s_no_more : Stmt := top 12
abbrev s_write_reading : Stmt := top 15
abbrev s_write_work : Stmt := top 16
abbrev s_pick_pair_at : Stmt := top 17
abbrev s_reading_row : Stmt := top 18
abbrev s_read_reading : Stmt := top 19
abbrev s_read_work : Stmt := top 20
abbrev s__law_source : Stmt := top 22
abbrev s__law_next : Stmt := top 23
abbrev s__law_pick : Stmt := top 24
abbrev s__law_one_in : Stmt := top 25
abbrev s__law_one_of : Stmt := top 26
abbrev s__law_letter : Stmt := top 27
abbrev s__law_word : Stmt := top 28
abbrev s__law_words : Stmt := top 29
abbrev s__law_lists : Stmt := top 30
abbrev s__law_same : Stmt := top 31
abbrev s__law_is_word : Stmt := top 32
abbrev s__law_reading_line : Stmt := top 33
abbrev s__law_pair_of : Stmt := top 34
abbrev s__law_read : Stmt := top 35
abbrev s__law_error : Stmt := top 36
abbrev s__law_asked_work : Stmt := top 37
abbrev s__law_asked_line : Stmt := top 38
abbrev s__law_wide_reading : Stmt := top 39
abbrev s__law_bent_line : Stmt := top 40
abbrev s__law_bent_lines : Stmt := top 41
abbrev s__law_there_and_back : Stmt := top 42
abbrev s__law_round : Stmt := top 43
abbrev s_law : Stmt := top 44
end A07
set_option Elab.async false
set_option linter.all false
set_option maxRecDepth 100000
set_option maxHeartbeats 4000000
namespace A07J
open PySem PySem.Spec PyProof.Rows L2 Kp A07
section
variable (K : PySem.W.Frag)
def C0 : Addr := kGlo K "AcrossError"
def C5 : Addr := kGlo K "BadLine"
def C11 : Addr := kGlo K "Lines"
def C12 : Addr := kGlo K "BadReading"
def C13 : Addr := kGlo K "BadWork"
def A1 : Addr := kMeth K (C12 K) "__init__"
def A2 : Addr := kMeth K (C5 K) "__init__"
def A3 : Addr := kMeth K (C13 K) "__init__"
def A4 : Addr := kGlo K "deep"
def A5 : Addr := kGlo K "is_word"
def A6 : Addr := kMeth K (C11 K) "__init__"
def A8 : Addr := kMeth K (C11 K) "line_words"
def A9 : Addr := kMeth K (C11 K) "first_word"
def A10 : Addr := kMeth K (C11 K) "many_words"
def A11 : Addr := kMeth K (C11 K) "word_at"
def A13 : Addr := kMeth K (C11 K) "fail_at"
def A17 : Addr := kMeth K (C11 K) "want_word"
def A18 : Addr := kMeth K (C11 K) "close_at"
def A19 : Addr := kGlo K "no_more"
def A20 : Addr := kGlo K "write_reading"
def A21 : Addr := kGlo K "write_work"
def A22 : Addr := kGlo K "pick_pair_at"
def A23 : Addr := kGlo K "reading_row"
def A24 : Addr := kGlo K "read_reading"
def A25 : Addr := kGlo K "read_work"
def A26 : Addr := kGlo K "_law_source"
def A27 : Addr := kGlo K "_law_next"
def A28 : Addr := kGlo K "_law_pick"
def A29 : Addr := kGlo K "_law_one_in"
def A30 : Addr := kGlo K "_law_one_of"
def A31 : Addr := kGlo K "_law_letter"
def A32 : Addr := kGlo K "_law_word"
def A33 : Addr := kGlo K "_law_words"
def A34 : Addr := kGlo K "_law_lists"
def A35 : Addr := kGlo K "_law_same"
def A36 : Addr := kGlo K "_law_is_word"
def A37 : Addr := kGlo K "_law_reading_line"
def A38 : Addr := kGlo K "_law_pair_of"
def A39 : Addr := kGlo K "_law_read"
def A40 : Addr := kGlo K "_law_error"
def A41 : Addr := kGlo K "_law_asked_work"
def A42 : Addr := kGlo K "_law_asked_line"
def A43 : Addr := kGlo K "_law_wide_reading"
def A44 : Addr := kGlo K "_law_bent_line"
def A45 : Addr := kGlo K "_law_bent_lines"
def A46 : Addr := kGlo K "_law_there_and_back"
def A47 : Addr := kGlo K "_law_round"
def A48 : Addr := kGlo K "law"
end
def chk0 (K : PySem.W.Frag) : List Bool := [PySem.W.keepIn K (.ref (A1 K)),
  PySem.W.keepIn K (.ref (A2 K)),
  PySem.W.keepIn K (.ref (A3 K)),
  bNs K "deep" (some (.ref (A4 K))),
  PySem.W.keepIn K (.ref (A4 K)),
  bNs K "is_word" (some (.ref (A5 K))),
  PySem.W.keepIn K (.ref (A5 K)),
  PySem.W.keepIn K (.ref (A6 K)),
  PySem.W.keepIn K (.ref (A8 K)),
  PySem.W.keepIn K (.ref (A9 K)),
  PySem.W.keepIn K (.ref (A10 K)),
  PySem.W.keepIn K (.ref (A11 K)),
  PySem.W.keepIn K (.ref (A13 K)),
  PySem.W.keepIn K (.ref (A17 K)),
  PySem.W.keepIn K (.ref (A18 K)),
  bNs K "no_more" (some (.ref (A19 K))),
  PySem.W.keepIn K (.ref (A19 K)),
  bNs K "write_reading" (some (.ref (A20 K))),
  PySem.W.keepIn K (.ref (A20 K)),
  bNs K "write_work" (some (.ref (A21 K))),
  PySem.W.keepIn K (.ref (A21 K)),
  bNs K "pick_pair_at" (some (.ref (A22 K))),
  PySem.W.keepIn K (.ref (A22 K)),
  bNs K "reading_row" (some (.ref (A23 K))),
  PySem.W.keepIn K (.ref (A23 K)),
  bNs K "read_reading" (some (.ref (A24 K))),
  PySem.W.keepIn K (.ref (A24 K)),
  bNs K "read_work" (some (.ref (A25 K))),
  PySem.W.keepIn K (.ref (A25 K)),
  bNs K "_law_source" (some (.ref (A26 K))),
  PySem.W.keepIn K (.ref (A26 K)),
  bNs K "_law_next" (some (.ref (A27 K))),
  PySem.W.keepIn K (.ref (A27 K)),
  bNs K "_law_pick" (some (.ref (A28 K))),
  PySem.W.keepIn K (.ref (A28 K)),
  bNs K "_law_one_in" (some (.ref (A29 K))),
  PySem.W.keepIn K (.ref (A29 K)),
  bNs K "_law_one_of" (some (.ref (A30 K))),
  PySem.W.keepIn K (.ref (A30 K)),
  bNs K "_law_letter" (some (.ref (A31 K)))]
def chk1 (K : PySem.W.Frag) : List Bool := [PySem.W.keepIn K (.ref (A31 K)),
  bNs K "_law_word" (some (.ref (A32 K))),
  PySem.W.keepIn K (.ref (A32 K)),
  bNs K "_law_words" (some (.ref (A33 K))),
  PySem.W.keepIn K (.ref (A33 K)),
  bNs K "_law_lists" (some (.ref (A34 K))),
  PySem.W.keepIn K (.ref (A34 K)),
  bNs K "_law_same" (some (.ref (A35 K))),
  PySem.W.keepIn K (.ref (A35 K)),
  bNs K "_law_is_word" (some (.ref (A36 K))),
  PySem.W.keepIn K (.ref (A36 K)),
  bNs K "_law_reading_line" (some (.ref (A37 K))),
  PySem.W.keepIn K (.ref (A37 K)),
  bNs K "_law_pair_of" (some (.ref (A38 K))),
  PySem.W.keepIn K (.ref (A38 K)),
  bNs K "_law_read" (some (.ref (A39 K))),
  PySem.W.keepIn K (.ref (A39 K)),
  bNs K "_law_error" (some (.ref (A40 K))),
  PySem.W.keepIn K (.ref (A40 K)),
  bNs K "_law_asked_work" (some (.ref (A41 K))),
  PySem.W.keepIn K (.ref (A41 K)),
  bNs K "_law_asked_line" (some (.ref (A42 K))),
  PySem.W.keepIn K (.ref (A42 K)),
  bNs K "_law_wide_reading" (some (.ref (A43 K))),
  PySem.W.keepIn K (.ref (A43 K)),
  bNs K "_law_bent_line" (some (.ref (A44 K))),
  PySem.W.keepIn K (.ref (A44 K)),
  bNs K "_law_bent_lines" (some (.ref (A45 K))),
  PySem.W.keepIn K (.ref (A45 K)),
  bNs K "_law_there_and_back" (some (.ref (A46 K))),
  PySem.W.keepIn K (.ref (A46 K)),
  bNs K "_law_round" (some (.ref (A47 K))),
  PySem.W.keepIn K (.ref (A47 K)),
  bNs K "law" (some (.ref (A48 K))),
  PySem.W.keepIn K (.ref (A48 K)),
  bTopTup K "PICKS_TOLD" ["1", "2"],
  bExcC K (C5 K),
  bKit K (.ref (C5 K)) (.ref (C5 K)) true,
  bKit K (.ref (C5 K)) (.type "ValueError") true,
  bKit K (.ref (C5 K)) (.ref (C13 K)) false]
def chk2 (K : PySem.W.Frag) : List Bool := [bKit K (.ref (C5 K)) (.ref (C12 K)) false,
  bKit K (.ref (C5 K)) (.ref (C0 K)) true,
  bExm K (.ref (C5 K)) (.ref (C0 K)) true,
  bNs K "isinstance" none,
  bNs K "tuple" none,
  bNs K "list" none,
  bNs K "str" none,
  bNs K "len" none,
  bNs K "int" none,
  bNs K "range" none,
  bNs K "sum" none,
  bNs K "abs" none,
  bNs K "bool" none,
  bNs K "all" none,
  bNs K "ValueError" none,
  bNs K "AcrossError" (some (.ref (C0 K))),
  bBase K (C0 K),
  bNs K "BadReading" (some (.ref (C12 K))),
  bOex K (C12 K),
  bFind K (C12 K) "__init__" (some (.ref (A1 K))),
  bTyp K (.ref (A1 K)) (.type "function"),
  bFind K (C12 K) "number" none,
  bNs K "BadLine" (some (.ref (C5 K))),
  bOex K (C5 K),
  bFind K (C5 K) "__init__" (some (.ref (A2 K))),
  bTyp K (.ref (A2 K)) (.type "function"),
  bFind K (C5 K) "line" none,
  bFind K (C5 K) "word" none,
  bNs K "BadWork" (some (.ref (C13 K))),
  bOex K (C13 K),
  bFind K (C13 K) "__init__" (some (.ref (A3 K))),
  bTyp K (.ref (A3 K)) (.type "function"),
  bFind K (C13 K) "number" none,
  bNs K "Lines" (some (.ref (C11 K))),
  bCls K (C11 K),
  bOwn K (C11 K),
  bFind K (C11 K) "texts" none,
  bFind K (C11 K) "place" none,
  bMk K (C11 K) (A6 K),
  bMeth K (C11 K) "line_words" (A8 K)]
def chk3 (K : PySem.W.Frag) : List Bool := [bMeth K (C11 K) "first_word" (A9 K),
  bMeth K (C11 K) "many_words" (A10 K),
  bMeth K (C11 K) "word_at" (A11 K),
  bMeth K (C11 K) "fail_at" (A13 K),
  bMeth K (C11 K) "want_word" (A17 K),
  bMeth K (C11 K) "close_at" (A18 K)]
def chks (K : PySem.W.Frag) : Bool := allB [allB (chk0 K), allB (chk1 K), allB (chk2 K), allB (chk3 K)]
def fns : List DefK := [⟨A1, "__init__", "BadReading.__init__", defArgs s_BadReading___init__, defBody s_BadReading___init__, defScope s_BadReading___init__, fun K => [], fun K => []⟩,
  ⟨A2, "__init__", "BadLine.__init__", defArgs s_BadLine___init__, defBody s_BadLine___init__, defScope s_BadLine___init__, fun K => [], fun K => []⟩,
  ⟨A3, "__init__", "BadWork.__init__", defArgs s_BadWork___init__, defBody s_BadWork___init__, defScope s_BadWork___init__, fun K => [], fun K => []⟩,
  ⟨A4, "deep", "deep", defArgs s_deep, defBody s_deep, defScope s_deep, fun K => [], fun K => []⟩,
  ⟨A5, "is_word", "is_word", defArgs s_is_word, defBody s_is_word, defScope s_is_word, fun K => [], fun K => []⟩,
  ⟨A6, "__init__", "Lines.__init__", defArgs s_Lines___init__, defBody s_Lines___init__, defScope s_Lines___init__, fun K => [], fun K => []⟩,
  ⟨A8, "line_words", "Lines.line_words", defArgs s_Lines_line_words, defBody s_Lines_line_words, defScope s_Lines_line_words, fun K => [], fun K => []⟩,
  ⟨A9, "first_word", "Lines.first_word", defArgs s_Lines_first_word, defBody s_Lines_first_word, defScope s_Lines_first_word, fun K => [], fun K => []⟩,
  ⟨A10, "many_words", "Lines.many_words", defArgs s_Lines_many_words, defBody s_Lines_many_words, defScope s_Lines_many_words, fun K => [], fun K => []⟩,
  ⟨A11, "word_at", "Lines.word_at", defArgs s_Lines_word_at, defBody s_Lines_word_at, defScope s_Lines_word_at, fun K => [], fun K => []⟩,
  ⟨A13, "fail_at", "Lines.fail_at", defArgs s_Lines_fail_at, defBody s_Lines_fail_at, defScope s_Lines_fail_at, fun K => [], fun K => []⟩,
  ⟨A17, "want_word", "Lines.want_word", defArgs s_Lines_want_word, defBody s_Lines_want_word, defScope s_Lines_want_word, fun K => [], fun K => []⟩,
  ⟨A18, "close_at", "Lines.close_at", defArgs s_Lines_close_at, defBody s_Lines_close_at, defScope s_Lines_close_at, fun K => [], fun K => []⟩,
  ⟨A19, "no_more", "no_more", defArgs s_no_more, defBody s_no_more, defScope s_no_more, fun K => [], fun K => []⟩,
  ⟨A20, "write_reading", "write_reading", defArgs s_write_reading, defBody s_write_reading, defScope s_write_reading, fun K => [], fun K => []⟩,
  ⟨A21, "write_work", "write_work", defArgs s_write_work, defBody s_write_work, defScope s_write_work, fun K => [], fun K => []⟩,
  ⟨A22, "pick_pair_at", "pick_pair_at", defArgs s_pick_pair_at, defBody s_pick_pair_at, defScope s_pick_pair_at, fun K => [], fun K => []⟩,
  ⟨A23, "reading_row", "reading_row", defArgs s_reading_row, defBody s_reading_row, defScope s_reading_row, fun K => [], fun K => []⟩,
  ⟨A24, "read_reading", "read_reading", defArgs s_read_reading, defBody s_read_reading, defScope s_read_reading, fun K => [], fun K => []⟩,
  ⟨A25, "read_work", "read_work", defArgs s_read_work, defBody s_read_work, defScope s_read_work, fun K => [], fun K => []⟩,
  ⟨A26, "_law_source", "_law_source", defArgs s__law_source, defBody s__law_source, defScope s__law_source, fun K => [], fun K => []⟩,
  ⟨A27, "_law_next", "_law_next", defArgs s__law_next, defBody s__law_next, defScope s__law_next, fun K => [], fun K => []⟩,
  ⟨A28, "_law_pick", "_law_pick", defArgs s__law_pick, defBody s__law_pick, defScope s__law_pick, fun K => [], fun K => []⟩,
  ⟨A29, "_law_one_in", "_law_one_in", defArgs s__law_one_in, defBody s__law_one_in, defScope s__law_one_in, fun K => [], fun K => []⟩,
  ⟨A30, "_law_one_of", "_law_one_of", defArgs s__law_one_of, defBody s__law_one_of, defScope s__law_one_of, fun K => [], fun K => []⟩,
  ⟨A31, "_law_letter", "_law_letter", defArgs s__law_letter, defBody s__law_letter, defScope s__law_letter, fun K => [], fun K => []⟩,
  ⟨A32, "_law_word", "_law_word", defArgs s__law_word, defBody s__law_word, defScope s__law_word, fun K => [], fun K => []⟩,
  ⟨A33, "_law_words", "_law_words", defArgs s__law_words, defBody s__law_words, defScope s__law_words, fun K => [], fun K => []⟩,
  ⟨A34, "_law_lists", "_law_lists", defArgs s__law_lists, defBody s__law_lists, defScope s__law_lists, fun K => [], fun K => []⟩,
  ⟨A35, "_law_same", "_law_same", defArgs s__law_same, defBody s__law_same, defScope s__law_same, fun K => [], fun K => []⟩,
  ⟨A36, "_law_is_word", "_law_is_word", defArgs s__law_is_word, defBody s__law_is_word, defScope s__law_is_word, fun K => [], fun K => []⟩,
  ⟨A37, "_law_reading_line", "_law_reading_line", defArgs s__law_reading_line, defBody s__law_reading_line, defScope s__law_reading_line, fun K => [], fun K => []⟩,
  ⟨A38, "_law_pair_of", "_law_pair_of", defArgs s__law_pair_of, defBody s__law_pair_of, defScope s__law_pair_of, fun K => [], fun K => []⟩,
  ⟨A39, "_law_read", "_law_read", defArgs s__law_read, defBody s__law_read, defScope s__law_read, fun K => [], fun K => []⟩,
  ⟨A40, "_law_error", "_law_error", defArgs s__law_error, defBody s__law_error, defScope s__law_error, fun K => [], fun K => []⟩,
  ⟨A41, "_law_asked_work", "_law_asked_work", defArgs s__law_asked_work, defBody s__law_asked_work, defScope s__law_asked_work, fun K => [], fun K => []⟩,
  ⟨A42, "_law_asked_line", "_law_asked_line", defArgs s__law_asked_line, defBody s__law_asked_line, defScope s__law_asked_line, fun K => [], fun K => []⟩,
  ⟨A43, "_law_wide_reading", "_law_wide_reading", defArgs s__law_wide_reading, defBody s__law_wide_reading, defScope s__law_wide_reading, fun K => [], fun K => []⟩,
  ⟨A44, "_law_bent_line", "_law_bent_line", defArgs s__law_bent_line, defBody s__law_bent_line, defScope s__law_bent_line, fun K => [], fun K => []⟩,
  ⟨A45, "_law_bent_lines", "_law_bent_lines", defArgs s__law_bent_lines, defBody s__law_bent_lines, defScope s__law_bent_lines, fun K => [], fun K => []⟩,
  ⟨A46, "_law_there_and_back", "_law_there_and_back", defArgs s__law_there_and_back, defBody s__law_there_and_back, defScope s__law_there_and_back, fun K => [], fun K => []⟩,
  ⟨A47, "_law_round", "_law_round", defArgs s__law_round, defBody s__law_round, defScope s__law_round, fun K => [], fun K => []⟩,
  ⟨A48, "law", "law", defArgs s_law, defBody s_law, defScope s_law, fun K => [], fun K => []⟩]
def names0 : List PySem.Str := ["_wall", "AcrossError", "BadReading", "BadLine", "BadWork", "deep", "is_word", "Lines", "no_more", "PICKS_TOLD", "write_reading", "write_work", "pick_pair_at", "reading_row", "read_reading", "read_work", "_law_source", "_law_next", "_law_pick", "_law_one_in", "_law_one_of", "_law_letter", "_law_word", "_law_words", "_law_lists", "_law_same", "_law_is_word", "_law_reading_line", "_law_pair_of", "_law_read"]
def names1 : List PySem.Str := ["_law_error", "_law_asked_work", "_law_asked_line", "_law_wide_reading", "_law_bent_line", "_law_bent_lines", "_law_there_and_back", "_law_round"]
abbrev names : List PySem.Str := names0 ++ names1
abbrev R : PySem.W.OpenRow := PySem.W.OpenLaw.row PySem.Challenge.rw_keptacross_k07_work_lines
def ob (s : PySem.W.SharedT) : AlK := obsK 7 chks fns (HandSHeadRun.getT s)
theorem ob_eq (s : PySem.W.SharedT) : ob s = (hookK 7 chks fns).obs s.abs := obsK_eq s
set_option maxHeartbeats 0 in
theorem run (w : World) : HandSHeadRun.RunEq R (PySem.W.view R.prog [44]) (hookK 7 chks fns) ob 20000 names w := by
  intro os
  kernel_rfl
end A07J
set_option Elab.async false
set_option linter.all false
set_option maxRecDepth 100000
set_option maxHeartbeats 2000000
namespace Kp
open PySem L2

/-! ### computations over stores -/
inductive Rs (α : Type) where
  | ok (x : α) (S : Sto) | ex (c : Nat) (fs : List (Str × PV)) (S : Sto)
abbrev M (α : Type) := Sto → Option (Rs α)
def ret {α : Type} (x : α) : M α := fun S => some (.ok x S)
def bnd {α β : Type} (m : M α) (k : α → M β) : M β := fun S => match m S with
  | some (.ok x S') => k x S'
  | some (.ex c fs S') => some (.ex c fs S')
  | none => none
def lift {α : Type} (x : Option α) : M α := fun S => match x with
  | some y => some (.ok y S)
  | none => none

/-- what is wanted where an exception leaves -/
def ExP (K : PySem.W.Frag) (cl : Nat → Addr) (F : Fr) (W : WX) (G : Hp) (σ : L2.St) (c : Nat) (fs : List (Str × PV)) (S' : Sto) : Prop :=
  ∀ (d : Addr) (gs : List (Str × V)) (G' H' : Hp), Same G G' → StOk K cl F G' H' σ S' → (H' d = some (.xd gs) ∧ F.H0 d = none ∧ F.R d = none) → RepF K cl G' gs fs → W (.ref (cl c)) (some d) σ H'
def Post {α β : Type} (K : PySem.W.Frag) (cl : Nat → Addr) (R : Hp → β → α → Prop) (F : Fr) (W : WX) (G : Hp) (σ : L2.St) (Q : β → Hp → Prop) : Rs α → Prop
  | .ok y S' => ∀ (v : β) (G' H' : Hp), Same G G' → StOk K cl F G' H' σ S' → R G' v y → Q v H'
  | .ex c fs S' => ExP K cl F W G σ c fs S'
def Does {α β : Type} (K : PySem.W.Frag) (cl : Nat → Addr) (W : WX) (R : Hp → β → α → Prop) (t : L2.St → Hp → (β → Hp → Prop) → Prop) (m : M α) : Prop :=
  ∀ (F : Fr) (G H : Hp) (σ : L2.St) (S : Sto) (r : Rs α) (Q : β → Hp → Prop), StOk K cl F G H σ S → m S = some r → Post K cl R F W G σ Q r → t σ H Q
abbrev RV (K : PySem.W.Frag) (cl : Nat → Addr) : Hp → V → PV → Prop := fun G v x => Rep K cl G v x
abbrev RL (K : PySem.W.Frag) (cl : Nat → Addr) : Hp → List V → List PV → Prop := fun G v x => RepL K cl G v x
abbrev RB : Hp → Bool → Bool → Prop := fun _ v x => v = x

def EM (X : Cx) (cl : Nat → Addr) (W : WX) (e : Expr) (m : M PV) : Prop := ∃ t, PE X e t ∧ Does X.K cl W (RV X.K cl) t m
def TM (X : Cx) (cl : Nat → Addr) (W : WX) (e : Expr) (m : M Bool) : Prop := ∃ t, PT X e t ∧ Does X.K cl W RB t m
def AM (X : Cx) (cl : Nat → Addr) (W : WX) (es : List Expr) (m : M (List PV)) : Prop := ∃ t, PA X es t ∧ Does X.K cl W (RL X.K cl) t m

section
variable {K : PySem.W.Frag} {cl : Nat → Addr} {F : Fr} {W : WX} {G G' H H' : Hp} {σ : L2.St} {S : Sto}
theorem ExP.mono {c : Nat} {fs : List (Str × PV)} {S' : Sto} (e : Same G G') (h : ExP K cl F W G σ c fs S') : ExP K cl F W G' σ c fs S' :=
  fun d gs G2 H2 s k x r => h d gs G2 H2 (e.trans s) k x r
theorem Post.mono {α β : Type} {R : Hp → β → α → Prop} {Q : β → Hp → Prop} {r : Rs α} (e : Same G G') (h : Post K cl R F W G σ Q r) : Post K cl R F W G' σ Q r := by
  cases r with
  | ok y S' => exact fun v G2 H2 s k x => h v G2 H2 (e.trans s) k x
  | ex c fs S' => exact ExP.mono e h
theorem Post.exp {α α' β β' : Type} {R : Hp → β → α → Prop} {R' : Hp → β' → α' → Prop} {Q : β → Hp → Prop} {Q' : β' → Hp → Prop} {c : Nat} {fs : List (Str × PV)} {S' : Sto} (h : Post K cl R F W G σ Q (.ex c fs S')) : Post K cl R' F W G σ Q' (.ex c fs S') := h
/-- first m1, then the rest -/
theorem Does.step {α β γ δ : Type} {R1 : Hp → β → α → Prop} {R2 : Hp → δ → γ → Prop} {t1 : L2.St → Hp → (β → Hp → Prop) → Prop} {m1 : M α} {k : α → M γ} {r : Rs γ} {Q1 : β → Hp → Prop} {Q2 : δ → Hp → Prop}
    (h1 : Does K cl W R1 t1 m1) (st : StOk K cl F G H σ S) (hm : bnd m1 k S = some r) (hp : Post K cl R2 F W G σ Q2 r)
    (hk : ∀ (y : α) (S1 : Sto) (v : β) (G1 H1 : Hp), k y S1 = some r → Same G G1 → StOk K cl F G1 H1 σ S1 → R1 G1 v y → Post K cl R2 F W G1 σ Q2 r → Q1 v H1) : t1 σ H Q1 := by
  unfold bnd at hm
  cases e : m1 S with
  | none =>
    rw [e] at hm
    cases hm
  | some r1 =>
    rw [e] at hm
    cases r1 with
    | ok y S1 =>
      refine h1 F G H σ S _ Q1 st e ?_
      exact fun v G1 H1 s k1 x => hk y S1 v G1 H1 hm s k1 x (hp.mono s)
    | ex c fs S1 =>
      have hm' : Rs.ex c fs S1 = r := Option.some.inj hm
      subst hm'
      exact h1 F G H σ S _ Q1 st e hp
theorem lift_bnd {α γ : Type} {x : Option α} {k : α → M γ} {r : Rs γ} (h : bnd (lift x) k S = some r) : ∃ y, x = some y ∧ k y S = some r := by
  unfold bnd Kp.lift at h
  cases x with
  | none => cases h
  | some y => exact ⟨y, rfl, h⟩
end

/-- the end of an operation: a value of the present heap, or one new object -/
def Res1 (K : PySem.W.Frag) (cl : Nat → Addr) (G H : Hp) (z : PV) (w : V) (H' : Hp) : Prop :=
  (H' = H ∧ Rep K cl G w z) ∨ ∃ (p : Addr) (o : HO), H p = none ∧ H' = upd H p o ∧ Rep K cl (upd G p o) w z
theorem StOk.res1 {K : PySem.W.Frag} {cl : Nat → Addr} {F : Fr} {G H H' : Hp} {σ : L2.St} {S : Sto} {z : PV} {w : V} (k : StOk K cl F G H σ S) (h : Res1 K cl G H z w H') : ∃ G', Same G G' ∧ StOk K cl F G' H' σ S ∧ Rep K cl G' w z := by
  rcases h with ⟨rfl, r⟩ | ⟨p, o, hp, rfl, r⟩
  · exact ⟨G, Same.refl _, k, r⟩
  · exact ⟨_, same_new (k.free hp), k.alloc hp, r⟩
theorem Post.res1 {K : PySem.W.Frag} {cl : Nat → Addr} {F : Fr} {W : WX} {G H H' : Hp} {σ : L2.St} {S : Sto} {Q : VK} {z : PV} {w : V} (h : Post K cl (RV K cl) F W G σ Q (.ok z S)) (k : StOk K cl F G H σ S) (q : Res1 K cl G H z w H') : Q w H' := by
  obtain ⟨G', s, k', r⟩ := k.res1 q
  exact h w G' H' s k' r

/-! ### names and constants -/
section
variable {X : Cx} {cl : Nat → Addr} {W : WX} {pos : Pos}
def mVar (i : Nat) : M PV := fun S => match S[i]? with
  | some (some (.p x)) => some (.ok x S)
  | some (some (.o x)) => some (.ok x (S.set i (some (.p x))))
  | _ => none
theorem em_pv {e : Expr} {i : Nat} (h : PE X e (tVar i)) : EM X cl W e (mVar i) := by
  refine ⟨_, h, fun F G H σ S r Q st hm hp => ?_⟩
  unfold mVar at hm
  split at hm
  · rename_i x e1
    cases hm
    obtain ⟨v, ev, rv⟩ := st.val _ _ e1
    exact ⟨v, ev, hp v G H (Same.refl _) st rv⟩
  · rename_i x e1
    cases hm
    obtain ⟨a, o, ea, sg, rp, st'⟩ := st.freeze e1
    exact ⟨_, ea, hp _ _ _ sg st' rp⟩
  · cases hm
def mK (x : PV) : M PV := ret x
theorem em_c {e : Expr} {v : V} {x : PV} (h : PE X e (tC v)) (r : ∀ K cl H, Rep K cl H v x) : EM X cl W e (mK x) := by
  refine ⟨_, h, fun F G H σ S r' Q st hm hp => ?_⟩
  cases hm
  exact hp v G H (Same.refl _) st (r _ _ _)
theorem em_int {i j} : EM X cl W (.Constant (.int i) j pos) (mK (.int i)) := em_c pe_int fun _ _ _ => .int _
theorem em_bl {b j} : EM X cl W (.Constant (.bool b) j pos) (mK (.bl b)) := em_c pe_bl fun _ _ _ => .bl _
theorem em_non {j} : EM X cl W (.Constant .none j pos) (mK .non) := em_c pe_non fun _ _ _ => .non
theorem em_str {x j} (h : x.length ≤ sizeLine := by decide) : EM X cl W (.Constant (.str x) j pos) (mK (.str x)) := em_c pe_str fun _ _ _ => .str _ h

/-! ### operations on two values -/
/-- an operation f computes g -/
def BinS (K : PySem.W.Frag) (cl : Nat → Addr) (r : R2) (g : PV → PV → Option PV) : Prop :=
  ∀ (G H : Hp) (v u : V) (x y z : PV) (Q : VK), Same G H → Rep K cl G v x → Rep K cl G u y → g x y = some z → (∀ w H', Res1 K cl G H z w H' → Q w H') → r v u H Q
def BinR (X : Cx) (cl : Nat → Addr) (f : Value → Value → Sem Value) (g : PV → PV → Option PV) : Prop := ∃ r : R2, OpR X f r ∧ BinS X.K cl r g
def mBin (g : PV → PV → Option PV) (ma mb : M PV) : M PV := bnd ma fun x => bnd mb fun y => lift (g x y)
theorem lift_eq {α : Type} {x : Option α} {S : Sto} {r : Rs α} (h : lift x S = some r) : ∃ y, x = some y ∧ r = .ok y S := by
  unfold lift at h
  cases x with
  | none => cases h
  | some y => exact ⟨y, rfl, (Option.some.inj h).symm⟩
theorem does_bin {g : PV → PV → Option PV} {r : R2} {ta tb : TE} {ma mb : M PV} (hr : BinS X.K cl r g) (h1 : Does X.K cl W (RV X.K cl) ta ma) (h2 : Does X.K cl W (RV X.K cl) tb mb) :
    Does X.K cl W (RV X.K cl) (tOp r ta tb) (mBin g ma mb) := by
  intro F G H σ S rr Q st hm hp
  refine h1.step st hm hp fun x S1 v G1 H1 hm1 s1 st1 rv hp1 => ?_
  refine h2.step st1 hm1 hp1 fun y S2 u G2 H2 hm2 s2 st2 ru hp2 => ?_
  obtain ⟨z, ez, rfl⟩ := lift_eq hm2
  exact hr G2 H2 v u x y z Q st2.ex (rv.mono s2) ru ez fun w H' q => hp2.res1 st2 q
theorem em_op {op : Operator} {a b : Expr} {g : PV → PV → Option PV} {ma mb : M PV} (hb : BinR X cl (binaryOp op) g) (ha : EM X cl W a ma) (hb' : EM X cl W b mb) : EM X cl W (.BinOp a op b pos) (mBin g ma mb) := by
  obtain ⟨ta, pa, da⟩ := ha
  obtain ⟨tb, pb, db⟩ := hb'
  obtain ⟨r, ho, hs⟩ := hb
  exact ⟨_, pe_op ho pa pb, does_bin hs da db⟩
theorem em_cmp {op : CmpOp} {a b : Expr} {g : PV → PV → Option PV} {ma mb : M PV} (hb : BinR X cl (compareOp op) g) (ha : EM X cl W a ma) (hb' : EM X cl W b mb) (hm : behindInMarks op b = false) : EM X cl W (.Compare a [op] [b] pos) (mBin g ma mb) := by
  obtain ⟨ta, pa, da⟩ := ha
  obtain ⟨tb, pb, db⟩ := hb'
  obtain ⟨r, ho, hs⟩ := hb
  exact ⟨_, pe_cmpR ho pa pb hm, does_bin hs da db⟩
/-- a value that is a bool -/
def asB : PV → M Bool
  | .bl b => ret b
  | _ => fun _ => none
def mTest (m : M PV) : M Bool := bnd m asB
theorem does_test {t : TE} {m : M PV} (d : Does X.K cl W (RV X.K cl) t m) : Does X.K cl W RB (tTest t) (mTest m) := by
  intro F G H σ S rr Q st hm hp
  refine d.step (R2 := RB) st hm hp fun y S1 v G1 H1 hm1 s1 st1 rv hp1 => ?_
  cases y <;> simp only [asB] at hm1 <;> try (cases hm1; done)
  cases hm1
  cases rv
  exact ⟨_, rfl, hp1 _ _ _ (Same.refl _) st1 rfl⟩
theorem tm_cmp {op : CmpOp} {a b : Expr} {g : PV → PV → Option PV} {ma mb : M PV} (hb : BinR X cl (compareOp op) g) (ha : EM X cl W a ma) (hb' : EM X cl W b mb) (hm : behindInMarks op b = false) : TM X cl W (.Compare a [op] [b] pos) (mTest (mBin g ma mb)) := by
  obtain ⟨ta, pa, da⟩ := ha
  obtain ⟨tb, pb, db⟩ := hb'
  obtain ⟨r, ho, hs⟩ := hb
  exact ⟨_, pt_cmpR ho pa pb hm, does_test (does_bin hs da db)⟩
end
end Kp
set_option Elab.async false
set_option linter.all false
set_option maxRecDepth 100000
set_option maxHeartbeats 2000000
namespace Kp
open PySem L2

/-! ### statements -/
inductive Fl where
  | nx | rt (y : PV) | bk | ct
def SPost (K : PySem.W.Frag) (cl : Nat → Addr) (F : Fr) (W : WX) (G : Hp) (D : Ends) : Rs Fl → Prop
  | .ok .nx S' => ∀ (σ' : L2.St) (G' H' : Hp), Same G G' → StOk K cl F G' H' σ' S' → D.nx σ' H'
  | .ok (.rt y) S' => ∀ (v : V) (σ' : L2.St) (G' H' : Hp), Same G G' → StOk K cl F G' H' σ' S' → Rep K cl G' v y → D.rt v H'
  | .ok .bk S' => ∀ (σ' : L2.St) (G' H' : Hp), Same G G' → StOk K cl F G' H' σ' S' → D.bk σ' H'
  | .ok .ct S' => ∀ (σ' : L2.St) (G' H' : Hp), Same G G' → StOk K cl F G' H' σ' S' → D.ct σ' H'
  | .ex c fs S' => ∀ (d : Addr) (gs : List (Str × V)) (σ' : L2.St) (G' H' : Hp), Same G G' → StOk K cl F G' H' σ' S' → (H' d = some (.xd gs) ∧ F.H0 d = none ∧ F.R d = none) → RepF K cl G' gs fs → W (.ref (cl c)) (some d) σ' H'
def DoesS (K : PySem.W.Frag) (cl : Nat → Addr) (W : WX) (t : TS) (m : M Fl) : Prop :=
  ∀ (F : Fr) (G H : Hp) (σ : L2.St) (S : Sto) (r : Rs Fl) (D : Ends), StOk K cl F G H σ S → m S = some r → SPost K cl F W G D r → t D σ H
def SM (X : Cx) (cl : Nat → Addr) (W : WX) (st : Stmt) (m : M Fl) : Prop := ∃ t, PS X st t ∧ DoesS X.K cl W t m
def SMs (X : Cx) (cl : Nat → Addr) (W : WX) (st : List Stmt) (m : M Fl) : Prop := ∃ t, PSs X st t ∧ DoesS X.K cl W t m
section
variable {K : PySem.W.Frag} {cl : Nat → Addr} {F : Fr} {W : WX} {G G' H H' : Hp} {σ : L2.St} {S : Sto} {D : Ends}
theorem SPost.mono {r : Rs Fl} (e : Same G G') (h : SPost K cl F W G D r) : SPost K cl F W G' D r := by
  cases r with
  | ok y S' => cases y with
    | nx => exact fun σ' G2 H2 s k => h σ' G2 H2 (e.trans s) k
    | rt y => exact fun v σ' G2 H2 s k r => h v σ' G2 H2 (e.trans s) k r
    | bk => exact fun σ' G2 H2 s k => h σ' G2 H2 (e.trans s) k
    | ct => exact fun σ' G2 H2 s k => h σ' G2 H2 (e.trans s) k
  | ex c fs S' => exact fun d gs σ' G2 H2 s k a b => h d gs σ' G2 H2 (e.trans s) k a b
/-- an expression in a statement -/
theorem Does.stepS {α β : Type} {R1 : Hp → β → α → Prop} {t1 : L2.St → Hp → (β → Hp → Prop) → Prop} {m1 : M α} {k : α → M Fl} {r : Rs Fl} {Q1 : β → Hp → Prop}
    (h1 : Does K cl W R1 t1 m1) (st : StOk K cl F G H σ S) (hm : bnd m1 k S = some r) (hp : SPost K cl F W G D r)
    (hk : ∀ (y : α) (S1 : Sto) (v : β) (G1 H1 : Hp), k y S1 = some r → Same G G1 → StOk K cl F G1 H1 σ S1 → R1 G1 v y → SPost K cl F W G1 D r → Q1 v H1) : t1 σ H Q1 := by
  unfold bnd at hm
  cases e : m1 S with
  | none =>
    rw [e] at hm
    cases hm
  | some r1 =>
    rw [e] at hm
    cases r1 with
    | ok y S1 =>
      refine h1 F G H σ S _ Q1 st e ?_
      exact fun v G1 H1 s k1 x => hk y S1 v G1 H1 hm s k1 x (hp.mono s)
    | ex c fs S1 =>
      have hm' : Rs.ex c fs S1 = r := Option.some.inj hm
      subst hm'
      exact h1 F G H σ S _ Q1 st e (fun d gs G' H' s k a b => hp d gs σ G' H' s k a b)
end
def mNx : M Fl := ret .nx
def mSeq (m u : M Fl) : M Fl := bnd m fun f => match f with
  | .nx => u
  | y => ret y
section
variable {X : Cx} {cl : Nat → Addr} {W : WX} {pos : Pos}
theorem sm_nil : SMs X cl W [] mNx := ⟨_, pss_nil, fun F G H σ S r D st hm hp => by
  cases hm
  exact hp σ G H (Same.refl _) st⟩
theorem does_seq {t u : TS} {m n : M Fl} (h1 : DoesS X.K cl W t m) (h2 : DoesS X.K cl W u n) : DoesS X.K cl W (tSeq t u) (mSeq m n) := by
  intro F G H σ S r D st hm hp
  unfold mSeq bnd at hm
  cases e : m S with
  | none =>
    rw [e] at hm
    cases hm
  | some r1 =>
    rw [e] at hm
    cases r1 with
    | ok y S1 =>
      cases y with
      | nx =>
        refine h1 F G H σ S _ _ st e ?_
        exact fun σ1 G1 H1 s k => h2 F G1 H1 σ1 S1 r D k hm (hp.mono s)
      | rt y =>
        have hm' : Rs.ok (Fl.rt y) S1 = r := Option.some.inj hm
        subst hm'
        exact h1 F G H σ S _ _ st e hp
      | bk =>
        have hm' : Rs.ok Fl.bk S1 = r := Option.some.inj hm
        subst hm'
        exact h1 F G H σ S _ _ st e hp
      | ct =>
        have hm' : Rs.ok Fl.ct S1 = r := Option.some.inj hm
        subst hm'
        exact h1 F G H σ S _ _ st e hp
    | ex c fs S1 =>
      have hm' : Rs.ex c fs S1 = r := Option.some.inj hm
      subst hm'
      exact h1 F G H σ S _ _ st e hp
theorem sm_cons {st : Stmt} {rest : List Stmt} {m n : M Fl} (h1 : SM X cl W st m) (h2 : SMs X cl W rest n) : SMs X cl W (st :: rest) (mSeq m n) := by
  obtain ⟨t, pt, dt⟩ := h1
  obtain ⟨u, pu, du⟩ := h2
  exact ⟨_, pss_cons pt pu, does_seq dt du⟩
theorem sm_one {st : Stmt} {m : M Fl} (h1 : SM X cl W st m) : SMs X cl W [st] m := by
  obtain ⟨t, pt, dt⟩ := h1
  exact ⟨_, pss_one pt, dt⟩
def mRet (m : M PV) : M Fl := bnd m fun x => ret (.rt x)
theorem sm_ret {e : Expr} {m : M PV} (h : EM X cl W e m) : SM X cl W (.Return (some e) pos) (mRet m) := by
  obtain ⟨t, p, d⟩ := h
  refine ⟨_, ps_ret p, fun F G H σ S r D st hm hp => ?_⟩
  refine d.stepS st hm hp fun y S1 v G1 H1 hm1 s1 st1 rv hp1 => ?_
  cases hm1
  exact hp1 v σ G1 H1 (Same.refl _) st1 rv
def mRetN : M Fl := ret (.rt .non)
theorem sm_retN : SM X cl W (.Return none pos) mRetN := ⟨_, ps_retN, fun F G H σ S r D st hm hp => by
  cases hm
  exact hp .non σ G H (Same.refl _) st .non⟩
theorem sm_pass : SM X cl W (.Pass pos) mNx := ⟨_, ps_pass, fun F G H σ S r D st hm hp => by
  cases hm
  exact hp σ G H (Same.refl _) st⟩
theorem sm_break : SM X cl W (.Break pos) (ret .bk) := ⟨_, ps_break, fun F G H σ S r D st hm hp => by
  cases hm
  exact hp σ G H (Same.refl _) st⟩
theorem sm_continue : SM X cl W (.Continue pos) (ret .ct) := ⟨_, ps_continue, fun F G H σ S r D st hm hp => by
  cases hm
  exact hp σ G H (Same.refl _) st⟩
def mDrop (m : M PV) : M Fl := bnd m fun _ => ret .nx
theorem sm_expr {e : Expr} {m : M PV} (h : EM X cl W e m) (hs : swapsWith e none pos.line X.env = pure false := by rfl) : SM X cl W (.Expr e pos) (mDrop m) := by
  obtain ⟨t, p, d⟩ := h
  refine ⟨_, ps_expr p hs, fun F G H σ S r D st hm hp => ?_⟩
  refine d.stepS st hm hp fun y S1 v G1 H1 hm1 s1 st1 rv hp1 => ?_
  cases hm1
  exact hp1 σ G1 H1 (Same.refl _) st1
def mIf (c : M Bool) (m n : M Fl) : M Fl := bnd c fun b => if b = true then m else n
theorem sm_if {c : Expr} {a b : List Stmt} {mc : M Bool} {m n : M Fl} (hc : TM X cl W c mc) (ha : SMs X cl W a m) (hb : SMs X cl W b n) : SM X cl W (.If c a b pos) (mIf mc m n) := by
  obtain ⟨tc, pc, dc⟩ := hc
  obtain ⟨ta, pa, da⟩ := ha
  obtain ⟨tb, pb, db⟩ := hb
  refine ⟨_, ps_if pc pa pb, fun F G H σ S r D st hm hp => ?_⟩
  refine dc.stepS st hm hp fun y S1 v G1 H1 hm1 s1 st1 rv hp1 => ?_
  cases rv
  cases y with
  | true => exact da F G1 H1 σ S1 r D st1 hm1 hp1
  | false => exact db F G1 H1 σ S1 r D st1 hm1 hp1
/-- a slot takes a plain value; one that a caller handed in stays -/
def put (i : Nat) (x : PV) : M Unit := fun S => match S[i]? with
  | some (some (.i _)) => none
  | none => none
  | _ => some (.ok () (S.set i (some (.p x))))
theorem io_none {K : PySem.W.Frag} {F : Fr} {G H : Hp} {σ : L2.St} {S : Sto} {i : Nat} (st : StOk K cl F G H σ S) (h : ∀ x, S[i]? ≠ some (some (.i x))) : F.io i = none := by
  cases q : F.io i with
  | none => rfl
  | some a =>
    obtain ⟨x, hx⟩ := st.io i a q
    exact absurd hx (h x)
theorem put_ok {K : PySem.W.Frag} {F : Fr} {G H : Hp} {σ : L2.St} {S S' : Sto} {i : Nat} {v : V} {x : PV} {u : Unit} (st : StOk K cl F G H σ S) (h : put i x S = some (.ok u S')) (r : Rep K cl G v x) : StOk K cl F G H (σ.set i (some v)) S' := by
  unfold put at h
  split at h
  · cases h
  · cases h
  · rename_i n1 n2
    cases h
    exact st.setp r (io_none st n1)
theorem put_ex {S S' : Sto} {i : Nat} {x : PV} {c fs} : put i x S ≠ some (.ex c fs S') := by
  intro h
  unfold put at h
  split at h <;> cases h
def mSet (i : Nat) (m : M PV) : M Fl := bnd m fun x => bnd (put i x) fun _ => ret .nx
theorem bnd_put {i : Nat} {x : PV} {S : Sto} {k : Unit → M Fl} {r : Rs Fl} (h : bnd (put i x) k S = some r) : ∃ S', put i x S = some (.ok () S') ∧ k () S' = some r := by
  unfold bnd at h
  cases e : put i x S with
  | none => rw [e] at h; cases h
  | some r1 =>
    rw [e] at h
    cases r1 with
    | ok y S1 => exact ⟨S1, rfl, h⟩
    | ex c fs S1 => exact absurd e put_ex
theorem sm_set {i : Nat} {x : Str} {e : Expr} {m : M PV} {pos' : Pos} (hN : X.N.Nodup) (hi : X.N[i]? = some x) (hx : Loc X.env.scope x) (h : EM X cl W e m) (hs : swapsWith e (some (.Name x pos')) pos.line X.env = pure false := by rfl)
    (hf : X.fn x = true ∨ X.env.scope.names.lookup x = some .local := by first | exact .inl rfl | exact .inr rfl | assumption) : SM X cl W (.Assign [.Name x pos'] e pos) (mSet i m) := by
  obtain ⟨t, p, d⟩ := h
  refine ⟨_, ps_set hN hi hx p hs hf, fun F G H σ S r D st hm hp => ?_⟩
  refine d.stepS st hm hp fun y S1 v G1 H1 hm1 s1 st1 rv hp1 => ?_
  obtain ⟨S2, h2, h3⟩ := bnd_put hm1
  cases h3
  exact hp1 _ G1 H1 (Same.refl _) (put_ok st1 h2 rv)
end

/-! ### for -/
/-- what a loop walks: the items are ys, they may be made on the way -/
def Walks (K : PySem.W.Frag) (cl : Nat → Addr) (J : It) (G : Hp) (ys : List PV) : Prop :=
  ∀ (i : Nat) (G2 H2 : Hp), Same G G2 → Same G2 H2 → (∀ y, ys[i]? = some y → J.go i H2 ∧ ∀ x H3, J.yld i H2 x H3 → Res1 K cl G2 H2 y x H3) ∧ (ys.length ≤ i → J.stop i H2)
/-- an iterable gives the items -/
def DoesI (K : PySem.W.Frag) (cl : Nat → Addr) (W : WX) (t : TI) (m : M (List PV)) : Prop :=
  ∀ (F : Fr) (G H : Hp) (σ : L2.St) (S : Sto) (ys : List PV) (S' : Sto) (R : It → Hp → Prop), StOk K cl F G H σ S → m S = some (.ok ys S') →
    (∀ (J : It) (G' H' : Hp), Same G G' → StOk K cl F G' H' σ S' → Walks K cl J G' ys → R J H') → t σ H R
def IM (X : Cx) (cl : Nat → Addr) (W : WX) (tg iter : Expr) (m : M (List PV)) : Prop := ∃ t, PI X tg iter t ∧ DoesI X.K cl W t m
/-- a target takes an item -/
def DoesG (K : PySem.W.Frag) (cl : Nat → Addr) (t : TG) (g : PV → Sto → Option Sto) : Prop :=
  ∀ (F : Fr) (G H : Hp) (σ : L2.St) (S S' : Sto) (v : V) (y : PV) (Q : L2.St → Hp → Prop), StOk K cl F G H σ S → Rep K cl G v y → g y S = some S' →
    (∀ σ', StOk K cl F G H σ' S' → Q σ' H) → t v σ H Q
def GM (X : Cx) (cl : Nat → Addr) (tg : Expr) (g : PV → Sto → Option Sto) : Prop := ∃ t, PG X tg t ∧ DoesG X.K cl t g
def loop (g : PV → Sto → Option Sto) (m : M Fl) : List PV → M Fl
  | [] => ret .nx
  | y :: ys => fun S => match g y S with
    | none => none
    | some S1 => match m S1 with
      | none => none
      | some (.ok .nx S2) => loop g m ys S2
      | some (.ok .ct S2) => loop g m ys S2
      | some (.ok .bk S2) => some (.ok .nx S2)
      | some r => some r
def mFor (mi : M (List PV)) (g : PV → Sto → Option Sto) (m : M Fl) : M Fl := fun S => match mi S with
  | some (.ok ys S') => loop g m ys S'
  | _ => none
section
variable {X : Cx} {cl : Nat → Addr} {W : WX} {pos : Pos}
theorem does_for {wi : TI} {tg : TG} {tb : TS} {mi : M (List PV)} {g : PV → Sto → Option Sto} {m : M Fl} (hi : DoesI X.K cl W wi mi) (hg : DoesG X.K cl tg g) (hb : DoesS X.K cl W tb m) : DoesS X.K cl W (tFor wi tg tb) (mFor mi g m) := by
  intro F G H σ S r D st hm hp
  unfold mFor at hm
  split at hm <;> try (cases hm; done)
  rename_i ys S1 e1
  refine hi F G H σ S ys S1 _ st e1 fun J G1 H1 s1 st1 hw => ?_
  refine ⟨fun i n σ' H' => n + i = ys.length ∧ ∃ G' S', Same G1 G' ∧ StOk X.K cl F G' H' σ' S' ∧ loop g m (ys.drop i) S' = some r, ⟨ys.length, Nat.add_zero _, G1, S1, Same.refl _, st1, hm⟩, ?_⟩
  rintro i n σ' H' ⟨hn, G', S', s', st', hl⟩
  obtain ⟨hgo, hstop⟩ := hw i G' H' s' st'.ex
  have sG : Same G G' := s1.trans s'
  cases e : ys[i]? with
  | none =>
    have hle : ys.length ≤ i := List.getElem?_eq_none_iff.mp e
    refine .inl ⟨hstop hle, ?_⟩
    rw [List.drop_eq_nil_of_le hle] at hl
    cases hl
    exact hp σ' G' H' sG st'
  | some y =>
    obtain ⟨hlt, _⟩ := List.getElem?_eq_some_iff.mp e
    have hd : ys.drop i = y :: ys.drop (i + 1) := by
      rw [List.drop_eq_getElem_cons hlt]
      have : ys[i] = y := by
        have := List.getElem?_eq_getElem hlt
        rw [e] at this
        exact (Option.some.inj this).symm
      rw [this]
    rw [hd] at hl
    unfold loop at hl
    cases eg : g y S' with
    | none => rw [eg] at hl; cases hl
    | some S2 =>
      rw [eg] at hl
      replace hl : (match m S2 with
        | none => none
        | some (.ok .nx S2) => loop g m (ys.drop (i + 1)) S2
        | some (.ok .ct S2) => loop g m (ys.drop (i + 1)) S2
        | some (.ok .bk S2) => some (.ok .nx S2)
        | some r => some r) = some r := hl
      obtain ⟨go, hy⟩ := hgo y e
      refine .inr ⟨go, fun σ3 H3 => (n - 1) + (i + 1) = ys.length ∧ ∃ G' S', Same G1 G' ∧ StOk X.K cl F G' H3 σ3 S' ∧ loop g m (ys.drop (i + 1)) S' = some r, fun σ3 H3 q => ⟨n - 1, by omega, q⟩, fun x H3 hx => ?_⟩
      obtain ⟨G3, s3, st3, r3⟩ := st'.res1 (hy x H3 hx)
      refine hg F G3 H3 σ' S' S2 x y _ st3 r3 eg fun σ4 st4 => ?_
      cases em : m S2 with
      | none => rw [em] at hl; cases hl
      | some rr =>
        rw [em] at hl
        refine hb F G3 H3 σ4 S2 _ _ st4 em ?_
        cases rr with
        | ok f S5 =>
          cases f with
          | nx => exact fun σ5 G5 H5 s5 st5 => ⟨by omega, G5, S5, (s'.trans s3).trans s5, st5, hl⟩
          | ct => exact fun σ5 G5 H5 s5 st5 => ⟨by omega, G5, S5, (s'.trans s3).trans s5, st5, hl⟩
          | bk =>
            cases hl
            exact fun σ5 G5 H5 s5 st5 => hp σ5 G5 H5 ((sG.trans s3).trans s5) st5
          | rt y =>
            cases hl
            exact fun v σ5 G5 H5 s5 st5 r5 => hp v σ5 G5 H5 ((sG.trans s3).trans s5) st5 r5
        | ex c fs S5 =>
          cases hl
          exact fun d gs σ5 G5 H5 s5 st5 a b => hp d gs σ5 G5 H5 ((sG.trans s3).trans s5) st5 a b
theorem sm_for {tg iter : Expr} {body : List Stmt} {mi : M (List PV)} {g : PV → Sto → Option Sto} {m : M Fl} (hp : PassesOwn (model X.prog X.w) X.A X.env X.xe) (hc : X.calm = true) (hi : IM X cl W tg iter mi) (hg : GM X cl tg g) (hb : SMs X cl W body m)
    (hs : ∀ x, foldedSetIterable iter X.env x = pure x := by intro _; rfl) : SM X cl W (.For tg iter body [] pos) (mFor mi g m) := by
  obtain ⟨wi, pi, di⟩ := hi
  obtain ⟨t, pg, dg⟩ := hg
  obtain ⟨tb, pb, db⟩ := hb
  exact ⟨_, ps_for hp hc pi pg pb hs, does_for di dg db⟩
/-- the target a name -/
def gN (i : Nat) : PV → Sto → Option Sto := fun y S => match put i y S with
  | some (.ok _ S') => some S'
  | _ => none
theorem gm_name {i : Nat} {x : Str} (hN : X.N.Nodup) (hi : X.N[i]? = some x) (hx : Loc X.env.scope x) (hf : X.fn x = true ∨ X.env.scope.names.lookup x = some .local := by first | exact .inl rfl | exact .inr rfl | assumption) : GM X cl (.Name x pos) (gN i) := by
  refine ⟨_, pg_name hN hi hx hf, fun F G H σ S S' v y Q st r h k => ?_⟩
  unfold gN at h
  split at h
  · rename_i u S2 e
    cases h
    exact k _ (put_ok st e r)
  · cases h
/-- over a list, a tuple -/
def mIter (m : M PV) : M (List PV) := bnd m fun x => match x with
  | .lst xs => ret xs
  | .frl ns => ret (ns.map PV.int)
  | _ => fun _ => none
def mIterT (m : M PV) : M (List PV) := bnd m fun x => match x with
  | .tup xs => ret xs
  | _ => fun _ => none
theorem bnd_some {α β : Type} {m : M α} {k : α → M β} {S : Sto} {r : Rs β} (h : bnd m k S = some r) : (∃ x S1, m S = some (.ok x S1) ∧ k x S1 = some r) ∨ ∃ c fs S1, m S = some (.ex c fs S1) ∧ r = .ex c fs S1 := by
  unfold bnd at h
  split at h
  · rename_i x S1 e
    exact .inl ⟨x, S1, e, h⟩
  · rename_i c fs S1 e
    exact .inr ⟨c, fs, S1, e, (Option.some.inj h).symm⟩
  · cases h
theorem walks_list {G : Hp} {a : Addr} {vs : List V} {ys : List PV} (h : SqL X.K G a vs) (r : RepL X.K cl G vs ys) : Walks X.K cl (Itl X.K a) G ys := by
  intro i G2 H2 s1 s2
  have q : SqL X.K H2 a vs := s2.seq (s1.seq h)
  refine ⟨fun y e => ?_, fun e => ⟨vs, q, by rw [r.length]; exact e⟩⟩
  obtain ⟨v, ev, rv⟩ := r.get e
  refine ⟨⟨vs, v, q, ev⟩, fun x H3 hy => ?_⟩
  obtain ⟨e3, hy⟩ := hy
  have ex := hy vs q
  rw [ev] at ex
  cases ex
  exact .inl ⟨e3, rv.mono s1⟩
theorem walks_tup {G : Hp} {a : Addr} {vs : List V} {ys : List PV} (h : TupAt X.K G a vs) (r : RepL X.K cl G vs ys) : Walks X.K cl (Itt X.K a) G ys := by
  intro i G2 H2 s1 s2
  have q : SqT X.K H2 a vs := sqt_mono (s1.trans s2) h
  refine ⟨fun y e => ?_, fun e => ⟨vs, q, by rw [r.length]; exact e⟩⟩
  obtain ⟨v, ev, rv⟩ := r.get e
  refine ⟨⟨vs, v, q, ev⟩, fun x H3 hy => ?_⟩
  obtain ⟨e3, hy⟩ := hy
  have ex := hy vs q
  rw [ev] at ex
  cases ex
  exact .inl ⟨e3, rv.mono s1⟩
theorem repL_ints {K : PySem.W.Frag} {G : Hp} : ∀ ns : List Int, RepL K cl G (ns.map V.int) (ns.map PV.int)
  | [] => .nil
  | n :: ns => .cons (.int n) (repL_ints ns)
theorem im_list {tg l : Expr} {m : M PV} (h : EM X cl W l m) : IM X cl W tg l (mIter m) := by
  obtain ⟨t, p, d⟩ := h
  refine ⟨_, pi_list p, fun F G H σ S ys S' R st hm k => ?_⟩
  rcases bnd_some hm with ⟨x, S1, e1, e2⟩ | ⟨c, fs, S1, _, e2⟩
  · cases x <;> try (cases e2; done)
    · cases e2
      refine d F G H σ S _ _ st e1 fun v G1 H1 s1 st1 rv => ?_
      cases rv with
      | lst hs hz hr => exact ⟨_, rfl, ⟨_, .inl (.inl (st1.ex _ _ hs))⟩, k _ G1 H1 s1 st1 (walks_list (.inl (.inl hs)) hr)⟩
    · cases e2
      refine d F G H σ S _ _ st e1 fun v G1 H1 s1 st1 rv => ?_
      cases rv with
      | frl hs => exact ⟨_, rfl, ⟨_, st1.ex.seq hs⟩, k _ G1 H1 s1 st1 (walks_list hs (repL_ints _))⟩
  · cases e2
theorem im_tup {tg l : Expr} {m : M PV} (h : EM X cl W l m) : IM X cl W tg l (mIterT m) := by
  obtain ⟨t, p, d⟩ := h
  refine ⟨_, pi_tup p, fun F G H σ S ys S' R st hm k => ?_⟩
  rcases bnd_some hm with ⟨x, S1, e1, e2⟩ | ⟨c, fs, S1, _, e2⟩
  · cases x <;> try (cases e2; done)
    cases e2
    refine d F G H σ S _ _ st e1 fun v G1 H1 s1 st1 rv => ?_
    cases rv with
    | tup hs hz hr => exact ⟨_, rfl, ⟨_, sqt_mono st1.ex hs⟩, k _ G1 H1 s1 st1 (walks_tup hs hr)⟩
  · cases e2
end
end Kp
set_option Elab.async false
set_option linter.all false
set_option maxRecDepth 100000
set_option maxHeartbeats 2000000
namespace Kp
open PySem PyProof.Rows L2

/-! ### what a def promises -/
inductive RO where
  | ret (y : PV) | exc (c : Nat) (fs : List (Str × PV))
/-- the heap behind a call that changed nothing that stood -/
structure Grown (G H G' H' : Hp) : Prop where
  g : Same G G'
  gh : Same G' H'
  h : Same H H'
  new : ∀ (a : Addr) (o : HO), G' a = some o → G a = some o ∨ H a = none
/-- behind a call that changed the object at a alone -/
structure GrownI (a : Addr) (G H G' H' : Hp) : Prop where
  g : Same G G'
  gh : Same G' H'
  h : ∀ (b : Addr) (o : HO), b ≠ a → H b = some o → H' b = some o
  new : ∀ (a : Addr) (o : HO), G' a = some o → G a = some o ∨ H a = none
def spP (K : PySem.W.Frag) (cl : Nat → Addr) (n : Nat) (f : List PV → Option RO) : Sp := fun vs H Q E => vs.length = n ∧ ∃ (G : Hp) (xs : List PV) (r : RO), Same G H ∧ RepL K cl G vs xs ∧ f xs = some r ∧
  match r with
  | .ret y => ∀ (v : V) (G' H' : Hp), Grown G H G' H' → Rep K cl G' v y → Q v H'
  | .exc c fs => ∀ (d : Addr) (gs : List (Str × V)) (G' H' : Hp), Grown G H G' H' → (H' d = some (.xd gs) ∧ H d = none) → RepF K cl G' gs fs → E (.ref (cl c)) (some d) H'
/-- the first parameter is changed -/
def spI (K : PySem.W.Frag) (cl : Nat → Addr) (n : Nat) (f : PV → List PV → Option (PV × RO)) : Sp := fun vs H Q E => vs.length = n ∧ ∃ (a : Addr) (ws : List V) (G : Hp) (x x' : PV) (xs : List PV) (r : RO), vs = .ref a :: ws ∧ Same G H ∧ G a = none ∧
  OwnAt K cl G H a x ∧ RepL K cl G ws xs ∧ f x xs = some (x', r) ∧
  match r with
  | .ret y => ∀ (v : V) (G' H' : Hp), GrownI a G H G' H' → OwnAt K cl G' H' a x' → Rep K cl G' v y → Q v H'
  | .exc c fs => ∀ (d : Addr) (gs : List (Str × V)) (G' H' : Hp), GrownI a G H G' H' → OwnAt K cl G' H' a x' → (H' d = some (.xd gs) ∧ H d = none) → RepF K cl G' gs fs → E (.ref (cl c)) (some d) H'
def stoP (N : Nat) (xs : List PV) : Sto := xs.map (fun x => some (.p x)) ++ List.replicate (N - xs.length) none
def endP : Option (Rs Fl) → Option RO
  | some (.ok .nx _) => some (.ret .non)
  | some (.ok (.rt y) _) => some (.ret y)
  | some (.ex c fs _) => some (.exc c fs)
  | _ => none
def runP (N : Nat) (m : M Fl) (xs : List PV) : Option RO := endP (m (stoP N xs))
def endI : Option (Rs Fl) → Option (PV × RO)
  | some (.ok .nx (some (.i x) :: _)) => some (x, .ret .non)
  | some (.ok (.rt y) (some (.i x) :: _)) => some (x, .ret y)
  | some (.ex c fs (some (.i x) :: _)) => some (x, .exc c fs)
  | _ => none
def runI (N : Nat) (m : M Fl) (x : PV) (xs : List PV) : Option (PV × RO) := endI (m (some (.i x) :: stoP (N - 1) xs))

section
variable {K : PySem.W.Frag} {cl : Nat → Addr} {F : Fr} {G G' H H' : Hp} {σ : L2.St} {S : Sto}
theorem StOk.grown (k : StOk K cl F G H σ S) (g : Grown G H G' H') : StOk K cl F G' H' σ S := by
  have gn : ∀ {a : Addr} {x : PV}, G a = none → OwnAt K cl G H a x → G' a = none ∧ H' a = H a := fun {a x} n q => by
    obtain ⟨o, e⟩ := q.there
    refine ⟨?_, by rw [e]; exact g.h a o e⟩
    cases z : G' a with
    | none => rfl
    | some u =>
      rcases g.new a u z with y | y
      · rw [n] at y; cases y
      · rw [e] at y; cases y
  refine ⟨g.gh, k.ex0.trans g.g, k.len, fun i x e => ?_, fun i x e => ?_, fun i x e => ?_, k.dist, k.io, k.ioh, k.iod, fun a o e n => g.h a o (k.frame a o e n), fun a o e => ?_, fun a o e => ?_⟩
  · obtain ⟨v, e1, r⟩ := k.val i x e
    exact ⟨v, e1, r.mono g.g⟩
  · obtain ⟨a, e1, ga, ha, q⟩ := k.own i x e
    obtain ⟨n, e2⟩ := gn ga q
    exact ⟨a, e1, n, ha, q.mono g.g e2⟩
  · obtain ⟨a, e1, ga, ha, q⟩ := k.inn i x e
    obtain ⟨n, e2⟩ := gn ga q
    exact ⟨a, e1, n, ha, q.mono g.g e2⟩
  · rcases g.new a o e with y | y
    · exact k.gnew a o y
    · exact .inr (k.free0 y)
  · obtain ⟨r1, r2, r3, r4⟩ := k.rsv a o e
    refine ⟨g.h a o r1, ?_, r3, r4⟩
    cases z : G' a with
    | none => rfl
    | some u =>
      rcases g.new a u z with y | y
      · rw [r2] at y; cases y
      · rw [r1] at y; cases y
/-- behind a call that changed the own object of slot i -/
theorem StOk.grownO (k : StOk K cl F G H σ S) {i : Nat} {a : Addr} {x y : PV} (hs : S[i]? = some (some (.o x))) (ha : σ[i]? = some (some (V.ref a))) (g : GrownI a G H G' H') (q : OwnAt K cl G' H' a y) : StOk K cl F G' H' σ (S.set i (some (.o y))) := by
  obtain ⟨a', e1, ga, h0, w⟩ := k.own i x hs
  rw [ha] at e1
  cases e1
  have gn : ∀ {b : Addr} {z : PV}, G b = none → OwnAt K cl G H b z → G' b = none := fun {b z} n q => by
    obtain ⟨o, e⟩ := q.there
    cases y : G' b with
    | none => rfl
    | some u =>
      rcases g.new b u y with y | y
      · rw [n] at y; cases y
      · rw [e] at y; cases y
  have hb : ∀ {b : Addr} {z : PV}, b ≠ a → OwnAt K cl G H b z → H' b = H b := fun {b z} n q => by
    obtain ⟨o, e⟩ := q.there
    rw [e]; exact g.h b o n e
  refine ⟨g.gh, k.ex0.trans g.g, by rw [List.length_set]; exact k.len, fun j z e => ?_, fun j z e => ?_, fun j z e => ?_, fun j l b y' z e1 e2 e3 e4 => ?_, fun j b e => ?_, k.ioh, k.iod, fun b u e n => ?_, fun b o e => ?_, fun b o e => ?_⟩
  · rcases set_get e with ⟨rfl, q, lt⟩ | ⟨n, q⟩
    · cases q
    · obtain ⟨v, e1, r⟩ := k.val j z q
      exact ⟨v, e1, r.mono g.g⟩
  · rcases set_get e with ⟨rfl, q', lt⟩ | ⟨n, q'⟩
    · cases q'
      exact ⟨a, ha, gn ga w, h0, q⟩
    · obtain ⟨b, e1, gb, hb0, w'⟩ := k.own j z q'
      have ne : b ≠ a := fun zz => n (k.dist j i b z x q' hs e1 (by rw [zz]; exact ha))
      exact ⟨b, e1, gn gb w', hb0, w'.mono g.g (hb ne w')⟩
  · rcases set_get e with ⟨rfl, q, lt⟩ | ⟨n, q'⟩
    · cases q
    · obtain ⟨b, e1, gb, hb0, w'⟩ := k.inn j z q'
      have ne : b ≠ a := fun zz => by
        obtain ⟨u, hu⟩ := k.ioh j b hb0
        rw [zz, h0] at hu
        cases hu
      exact ⟨b, e1, gn gb w', hb0, w'.mono g.g (hb ne w')⟩
  · have hj : ∃ y0, S[j]? = some (some (.o y0)) := by
      rcases set_get e1 with ⟨rfl, q, lt⟩ | ⟨n, q⟩
      · exact ⟨x, hs⟩
      · exact ⟨_, q⟩
    have hl : ∃ y0, S[l]? = some (some (.o y0)) := by
      rcases set_get e2 with ⟨rfl, q, lt⟩ | ⟨n, q⟩
      · exact ⟨x, hs⟩
      · exact ⟨_, q⟩
    obtain ⟨y1, h1⟩ := hj
    obtain ⟨y2, h2⟩ := hl
    exact k.dist j l b y1 y2 h1 h2 e3 e4
  · obtain ⟨x', hx⟩ := k.io j b e
    refine ⟨x', ?_⟩
    rw [List.getElem?_set_ne (fun z => by rw [← z, hs] at hx; cases hx)]
    exact hx
  · exact g.h b u (fun z => by rw [z, h0] at e; cases e) (k.frame b u e n)
  · rcases g.new b o e with y | y
    · exact k.gnew b o y
    · exact .inr (k.free0 y)
  · obtain ⟨r1, r2, r3, r4⟩ := k.rsv b o e
    have ne : b ≠ a := fun z => r4 i x hs (by rw [z]; exact ha)
    refine ⟨g.h b o ne r1, ?_, r3, fun j y' q' z => ?_⟩
    · cases z : G' b with
      | none => rfl
      | some u =>
        rcases g.new b u z with y | y
        · rw [r2] at y; cases y
        · rw [r1] at y; cases y
    rcases set_get q' with ⟨rfl, q2, lt⟩ | ⟨n, q2⟩
    · exact r4 j x hs z
    · exact r4 j y' q2 z
theorem StOk.grownII (k : StOk K cl F G H σ S) {i : Nat} {a : Addr} {x y : PV} (hs : S[i]? = some (some (.i x))) (ha : σ[i]? = some (some (V.ref a))) (g : GrownI a G H G' H') (q : OwnAt K cl G' H' a y) : StOk K cl F G' H' σ (S.set i (some (.i y))) := by
  obtain ⟨a', e1, ga, hio, w⟩ := k.inn i x hs
  rw [ha] at e1
  cases e1
  have gn : ∀ {b : Addr} {z : PV}, G b = none → OwnAt K cl G H b z → G' b = none := fun {b z} n q => by
    obtain ⟨o, e⟩ := q.there
    cases y : G' b with
    | none => rfl
    | some u =>
      rcases g.new b u y with y | y
      · rw [n] at y; cases y
      · rw [e] at y; cases y
  have hb : ∀ {b : Addr} {z : PV}, b ≠ a → OwnAt K cl G H b z → H' b = H b := fun {b z} n q => by
    obtain ⟨o, e⟩ := q.there
    rw [e]; exact g.h b o n e
  refine ⟨g.gh, k.ex0.trans g.g, by rw [List.length_set]; exact k.len, fun j z e => ?_, fun j z e => ?_, fun j z e => ?_, fun j l b y' z e1 e2 e3 e4 => ?_, fun j b e => ?_, k.ioh, k.iod, fun b u e n => ?_, fun b o e => ?_, fun b o e => ?_⟩
  · rcases set_get e with ⟨rfl, q, lt⟩ | ⟨n, q⟩
    · cases q
    · obtain ⟨v, e1, r⟩ := k.val j z q
      exact ⟨v, e1, r.mono g.g⟩
  · rcases set_get e with ⟨rfl, q', lt⟩ | ⟨n, q'⟩
    · cases q'
    · obtain ⟨b, e1, gb, hb0, w'⟩ := k.own j z q'
      have ne : b ≠ a := fun zz => by
        obtain ⟨u, hu⟩ := k.ioh i a hio
        rw [← zz, hb0] at hu
        cases hu
      exact ⟨b, e1, gn gb w', hb0, w'.mono g.g (hb ne w')⟩
  · rcases set_get e with ⟨rfl, q', lt⟩ | ⟨n, q'⟩
    · cases q'
      exact ⟨a, ha, gn ga w, hio, q⟩
    · obtain ⟨b, e1, gb, hb0, w'⟩ := k.inn j z q'
      have ne : b ≠ a := fun zz => n (k.iod j i b hb0 (by rw [zz]; exact hio))
      exact ⟨b, e1, gn gb w', hb0, w'.mono g.g (hb ne w')⟩
  · rcases set_get e1 with ⟨rfl, q, lt⟩ | ⟨n, q1⟩
    · cases q
    · rcases set_get e2 with ⟨rfl, q, lt⟩ | ⟨n, q2⟩
      · cases q
      · exact k.dist j l b _ _ q1 q2 e3 e4
  · by_cases z : j = i
    · subst z
      exact ⟨y, List.getElem?_set_self ((List.getElem?_eq_some_iff.mp hs).1)⟩
    · obtain ⟨x', hx⟩ := k.io j b e
      exact ⟨x', by rw [List.getElem?_set_ne (Ne.symm z)]; exact hx⟩
  · exact g.h b u (fun z => n i (by rw [z]; exact hio)) (k.frame b u e n)
  · rcases g.new b o e with y | y
    · exact k.gnew b o y
    · exact .inr (k.free0 y)
  · obtain ⟨r1, r2, r3, r4⟩ := k.rsv b o e
    have ne : b ≠ a := fun z => by
      obtain ⟨u', hu⟩ := k.ioh i a hio
      rw [← z, r3] at hu
      cases hu
    refine ⟨g.h b o ne r1, ?_, r3, fun j y' q' z => ?_⟩
    · cases z : G' b with
      | none => rfl
      | some u =>
        rcases g.new b u z with y | y
        · rw [r2] at y; cases y
        · rw [r1] at y; cases y
    rcases set_get q' with ⟨rfl, q2, lt⟩ | ⟨n, q2⟩
    · cases q2
    · exact r4 j y' q2 z
end

/-! ### the stores at a def's entry -/
theorem get_replicate {α : Type} {n i : Nat} {x y : α} (h : (List.replicate n x)[i]? = some y) : y = x := by
  rw [List.getElem?_replicate] at h
  split at h
  · exact (Option.some.inj h).symm
  · cases h
theorem stoP_get {N : Nat} {xs : List PV} {i : Nat} {y : SV} (h : (stoP N xs)[i]? = some (some y)) : ∃ x, xs[i]? = some x ∧ y = .p x := by
  unfold stoP at h
  by_cases z : i < xs.length
  · rw [List.getElem?_append_left (by rw [List.length_map]; exact z), List.getElem?_map] at h
    cases e : xs[i]? with
    | none => rw [e] at h; cases h
    | some x =>
      rw [e] at h
      exact ⟨x, rfl, by injection h with h; injection h with h; exact h.symm⟩
  · rw [List.getElem?_append_right (by rw [List.length_map]; omega)] at h
    have := get_replicate h
    cases this
theorem start_get {N : List Str} {vs : List V} {i : Nat} {v : V} (h : vs[i]? = some v) : (L2.start N vs)[i]? = some (some v) := by
  unfold L2.start
  obtain ⟨hi, e⟩ := List.getElem?_eq_some_iff.mp h
  rw [List.getElem?_append_left (by rw [List.length_map]; exact hi), List.getElem?_map, h]
  rfl
theorem start_len {N : List Str} {vs : List V} (h : vs.length ≤ N.length) : (L2.start N vs).length = N.length := by
  unfold L2.start
  rw [List.length_append, List.length_map, List.length_replicate]
  omega
theorem stoP_len {N : Nat} {xs : List PV} (h : xs.length ≤ N) : (stoP N xs).length = N := by
  unfold stoP
  rw [List.length_append, List.length_map, List.length_replicate]
  omega
theorem stOk_startP {K : PySem.W.Frag} {cl : Nat → Addr} {G H : Hp} {N : List Str} {vs : List V} {xs : List PV} (e : Same G H) (r : RepL K cl G vs xs) (hl : vs.length ≤ N.length) :
    StOk K cl ⟨G, H, fun _ => none, fun _ => none⟩ G H (L2.start N vs) (stoP N.length xs) := by
  refine ⟨e, Same.refl _, ?_, fun i x h => ?_, fun i x h => ?_, fun i x h => ?_, fun i j a x y h _ _ _ => ?_, fun i a h => ?_, fun i a h => ?_, fun i j a h => ?_, fun a o h _ => h, fun a o h => .inl h, fun a o h => by cases h⟩
  · rw [start_len hl, stoP_len (by rw [← r.length]; exact hl)]
  · obtain ⟨x', hx, q⟩ := stoP_get h
    cases q
    obtain ⟨v, ev, rv⟩ := r.get hx
    exact ⟨v, start_get ev, rv⟩
  · obtain ⟨x', hx, q⟩ := stoP_get h
    cases q
  · obtain ⟨x', hx, q⟩ := stoP_get h
    cases q
  · obtain ⟨x', hx, q⟩ := stoP_get h
    cases q
  · cases h
  · cases h
  · cases h
theorem stOk_startI {K : PySem.W.Frag} {cl : Nat → Addr} {G H : Hp} {N : List Str} {a : Addr} {x : PV} {vs : List V} {xs : List PV} (e : Same G H) (ga : G a = none) (q : OwnAt K cl G H a x) (r : RepL K cl G vs xs) (hl : vs.length + 1 ≤ N.length) :
    StOk K cl ⟨G, H, fun i => if i = 0 then some a else none, fun _ => none⟩ G H (L2.start N (.ref a :: vs)) (some (.i x) :: stoP (N.length - 1) xs) := by
  have tl : ∀ {i : Nat} {y : SV}, (some (SV.i x) :: stoP (N.length - 1) xs)[i]? = some (some y) → (i = 0 ∧ y = .i x) ∨ ∃ j z, i = j + 1 ∧ xs[j]? = some z ∧ y = .p z := fun {i y} h => by
    cases i with
    | zero =>
      have h' : some (SV.i x) = some y := by simpa using h
      exact .inl ⟨rfl, (Option.some.inj h').symm⟩
    | succ j =>
      have h' : (stoP (N.length - 1) xs)[j]? = some (some y) := by simpa using h
      obtain ⟨z, e1, e2⟩ := stoP_get h'
      exact .inr ⟨j, z, rfl, e1, e2⟩
  refine ⟨e, Same.refl _, ?_, fun i y h => ?_, fun i y h => ?_, fun i y h => ?_, fun i j b y z h1 h2 _ _ => ?_, fun i b h => ?_, fun i b h => ?_, fun i j b h1 h2 => ?_, fun b o h _ => h, fun b o h => .inl h, fun b o h => by cases h⟩
  · rw [start_len (by rw [List.length_cons]; exact hl), List.length_cons, stoP_len (by rw [← r.length]; omega)]
    omega
  · rcases tl h with ⟨_, q'⟩ | ⟨j, z, rfl, e1, e2⟩
    · cases q'
    · cases e2
      obtain ⟨v, ev, rv⟩ := r.get e1
      exact ⟨v, start_get (by simpa using ev), rv⟩
  · rcases tl h with ⟨_, q'⟩ | ⟨j, z, rfl, e1, e2⟩
    · cases q'
    · cases e2
  · rcases tl h with ⟨e0, q'⟩ | ⟨j, z, rfl, e1, e2⟩
    · cases q'
      subst e0
      exact ⟨a, start_get (by simp), ga, rfl, q⟩
    · cases e2
  · rcases tl h1 with ⟨e0, q'⟩ | ⟨j, z, rfl, e1, e2⟩
    · cases q'
    · cases e2
  · dsimp only at h
    split at h
    · rename_i z
      subst z
      exact ⟨x, rfl⟩
    · cases h
  · dsimp only at h
    split at h
    · cases h
      exact q.there
    · cases h
  · dsimp only at h1 h2
    split at h1
    · split at h2
      · rename_i z1 z2
        rw [z1, z2]
      · cases h2
    · cases h1

section
variable {P : Program} {w : World} {K : PySem.W.Frag} {mg : Str → Option Value} {base : Heap} {cl : Nat → Addr}
/-- a def whose body is a computation over stores -/
theorem fnP {x qual : Str} {st : Stmt} {f : Addr} {fd : FuncData} {N ps : List Str} {k : Nat} {m : M Fl} (F : Fun K x qual st f fd) (S : FnScope N ps (defScope st))
    (hb : ∀ (cdv : Value) (A : Around) (outer : List Env) (s : Shared) (H : Hp) (E : XK), Room k (A.deeper (envOfC qual (defScope st) s.heap.objs.size f cdv)) →
      SMs (cxOf (L2N.CX P w) P w K mg base N qual (defScope st) f cdv A outer s H E) cl (fun c d _ H' => E c d H') (defBody st) m) :
    FnOk P w K mg base (L2N.CX P w) (k + 1) f fd ps (spP K cl ps.length (runP N.length m)) := by
  obtain ⟨oc, od, kV, doc, pm, an, cdv, ct, osl, rfl, lk, hcd⟩ := F.ex
  have hps : ps.length ≤ N.length := by
    have := congrArg List.length S.pre
    rw [List.length_take] at this
    omega
  refine fn_of lk hcd S (fun vs H Q E h => h.1) fun A outer s H vs Q E hr hsp => ?_
  obtain ⟨t, pt, dt⟩ := hb cdv A outer s H E hr
  obtain ⟨hl, G, xs, r, e, rl, hf, hq⟩ := hsp
  refine ⟨t, pt, ?_⟩
  have st0 := stOk_startP (N := N) e rl (by rw [hl]; exact hps)
  unfold runP endP at hf
  have gr : ∀ {G' H' : Hp} {σ' : L2.St} {S' : Sto}, Same G G' → StOk K cl ⟨G, H, fun _ => none, fun _ => none⟩ G' H' σ' S' → Grown G H G' H' := fun {G' H' σ' S'} s k => ⟨s, k.ex, fun a o h => k.frame a o h (fun i z => by cases z), k.gnew⟩
  split at hf
  · rename_i S' em
    cases hf
    exact dt _ G H _ _ _ _ st0 em fun σ' G' H' s' k' => hq .non G' H' (gr s' k') .non
  · rename_i y S' em
    cases hf
    exact dt _ G H _ _ _ _ st0 em fun v σ' G' H' s' k' r' => hq v G' H' (gr s' k') r'
  · rename_i c fs S' em
    cases hf
    exact dt _ G H _ _ _ _ st0 em fun d gs σ' G' H' s' k' a b => hq d gs G' H' (gr s' k') ⟨a.1, a.2.1⟩ b
  · cases hf
theorem fnI {x qual : Str} {st : Stmt} {f : Addr} {fd : FuncData} {N ps : List Str} {k : Nat} {m : M Fl} (F : Fun K x qual st f fd) (S : FnScope N ps (defScope st))
    (hb : ∀ (cdv : Value) (A : Around) (outer : List Env) (s : Shared) (H : Hp) (E : XK), Room k (A.deeper (envOfC qual (defScope st) s.heap.objs.size f cdv)) →
      SMs (cxOf (L2N.CX P w) P w K mg base N qual (defScope st) f cdv A outer s H E) cl (fun c d _ H' => E c d H') (defBody st) m) :
    FnOk P w K mg base (L2N.CX P w) (k + 1) f fd ps (spI K cl ps.length (runI N.length m)) := by
  obtain ⟨oc, od, kV, doc, pm, an, cdv, ct, osl, rfl, lk, hcd⟩ := F.ex
  have hps : ps.length ≤ N.length := by
    have := congrArg List.length S.pre
    rw [List.length_take] at this
    omega
  refine fn_of lk hcd S (fun vs H Q E h => h.1) fun A outer s H vs Q E hr hsp => ?_
  obtain ⟨t, pt, dt⟩ := hb cdv A outer s H E hr
  obtain ⟨hl, a, ws, G, x, x', xs, r, rfl, e, ga, ho, rl, hf, hq⟩ := hsp
  refine ⟨t, pt, ?_⟩
  have st0 := stOk_startI (N := N) e ga ho rl (by rw [List.length_cons] at hl; omega)
  unfold runI endI at hf
  have gr : ∀ {G' H' : Hp} {σ' : L2.St} {S' : Sto} {y : PV}, Same G G' → StOk K cl ⟨G, H, fun i => if i = 0 then some a else none, fun _ => none⟩ G' H' σ' (some (.i y) :: S') → GrownI a G H G' H' ∧ OwnAt K cl G' H' a y := fun {G' H' σ' S' y} s k => by
    refine ⟨⟨s, k.ex, fun b o n h => k.frame b o h (fun i z => ?_), k.gnew⟩, ?_⟩
    · dsimp only at z
      split at z
      · cases z; exact n rfl
      · cases z
    · obtain ⟨b, _, _, e1, q⟩ := k.inn 0 y rfl
      have e1' : some a = some b := e1
      cases e1'
      exact q
  split at hf
  · rename_i x1 S' em
    cases hf
    exact dt _ G H _ _ _ _ st0 em fun σ' G' H' s' k' => hq .non G' H' (gr s' k').1 (gr s' k').2 .non
  · rename_i y x1 S' em
    cases hf
    exact dt _ G H _ _ _ _ st0 em fun v σ' G' H' s' k' r' => hq v G' H' (gr s' k').1 (gr s' k').2 r'
  · rename_i c fs x1 S' em
    cases hf
    exact dt _ G H _ _ _ _ st0 em fun d gs σ' G' H' s' k' a b => hq d gs G' H' (gr s' k').1 (gr s' k').2 ⟨a.1, a.2.1⟩ b
  · cases hf
end
end Kp
set_option Elab.async false
set_option linter.all false
set_option maxRecDepth 100000
set_option maxHeartbeats 2000000
namespace Kp
open PySem PyProof.Rows L2

/-! ### data -/
mutual
def PV.dat : PV → PyData
  | .non => .none
  | .bl b => .bool b
  | .int i => .int i
  | .str x => .str x
  | .tup xs => .tuple (PV.datL xs)
  | .lst xs => .list (PV.datL xs)
  | .frl ns => .list (ns.map .int)
  | .dct _ => .none
  | .obj _ _ => .none
  | .glb _ => .none
  | .xo _ _ _ _ => .none
  | .raw _ => .none
def PV.datL : List PV → List PyData
  | [] => []
  | x :: xs => PV.dat x :: PV.datL xs
end
mutual
/-- plain data: no dict, no instance -/
def PV.isD : PV → Bool
  | .tup xs => PV.isDL xs
  | .lst xs => PV.isDL xs
  | .dct _ => false
  | .obj _ _ => false
  | .glb _ => false
  | .xo _ _ _ _ => false
  | .raw _ => false
  | _ => true
def PV.isDL : List PV → Bool
  | [] => true
  | x :: xs => PV.isD x && PV.isDL xs
end
theorem plainAll_ints : ∀ ns : List Int, PyData.plainAll (ns.map PyData.int) = true
  | [] => rfl
  | n :: ns => by
    show (PyData.plain (.int n) && PyData.plainAll (ns.map PyData.int)) = true
    rw [plainAll_ints ns]
    rfl
mutual
theorem dat_plain : ∀ x : PV, (PV.dat x).plain = true
  | .non => rfl
  | .bl _ => rfl
  | .int _ => rfl
  | .str _ => rfl
  | .tup xs => by unfold PV.dat PyData.plain; exact datL_plain xs
  | .lst xs => by unfold PV.dat PyData.plain; exact datL_plain xs
  | .frl ns => by unfold PV.dat PyData.plain; exact plainAll_ints ns
  | .dct _ => rfl
  | .obj _ _ => rfl
  | .glb _ => rfl
  | .xo _ _ _ _ => rfl
  | .raw _ => rfl
theorem datL_plain : ∀ xs : List PV, PyData.plainAll (PV.datL xs) = true
  | [] => rfl
  | x :: xs => by
    unfold PV.datL PyData.plainAll
    rw [dat_plain x, datL_plain xs]
    rfl
end
section
variable {K : PySem.W.Frag} {cl : Nat → Addr} {H : Hp}
theorem dpAll_ints : ∀ ns : List Int, DpAll K H (ns.map V.int) (ns.map PyData.int)
  | [] => .nil
  | n :: ns => .cons (.int n) (dpAll_ints ns)
mutual
theorem Rep.dp : ∀ {v : V} {x : PV}, Rep K cl H v x → PV.isD x = true → Dp K H v (PV.dat x)
  | _, _, .non, _ => .non
  | _, _, .bl b, _ => .bl b
  | _, _, .int i, _ => .int i
  | _, _, .str x _, _ => .str x
  | _, _, .frl h, _ => .lst h (dpAll_ints _)
  | _, _, .tup h _ hs, d => .tup h.sq (RepL.dp hs (by unfold PV.isD at d; exact d))
  | _, _, .lst h _ hs, d => .lst (SqL.of h) (RepL.dp hs (by unfold PV.isD at d; exact d))
  | _, _, .dct h hs, d => by cases d
  | _, _, .obj h hs, d => by cases d
theorem RepL.dp : ∀ {vs : List V} {xs : List PV}, RepL K cl H vs xs → PV.isDL xs = true → DpAll K H vs (PV.datL xs)
  | _, _, .nil, _ => .nil
  | _, _, .cons h hs, d => by
    unfold PV.isDL at d
    rw [Bool.and_eq_true] at d
    exact .cons (Rep.dp h d.1) (RepL.dp hs d.2)
end
end

/-! ### == , != , in, not in, of data -/
def pEqB (x y : PV) : Option Bool := if PV.isD x && PV.isD y && decide (min (PV.dat x).depth (PV.dat y).depth ≤ 60) then some (PyData.eqv (PV.dat x) (PV.dat y)) else none
def pEq (x y : PV) : Option PV := (pEqB x y).map PV.bl
def pNe (x y : PV) : Option PV := (pEqB x y).map fun b => .bl (!b)
theorem pEqB_some {x y : PV} {b : Bool} (h : pEqB x y = some b) : PV.isD x = true ∧ PV.isD y = true ∧ min (PV.dat x).depth (PV.dat y).depth ≤ 60 ∧ b = PyData.eqv (PV.dat x) (PV.dat y) := by
  unfold pEqB at h
  split at h
  · rename_i c
    simp only [Bool.and_eq_true, decide_eq_true_eq] at c
    exact ⟨c.1.1, c.1.2, c.2, (Option.some.inj h).symm⟩
  · cases h
section
variable {X : Cx} {cl : Nat → Addr} {W : WX} {pos : Pos}
def rEqP (K : PySem.W.Frag) (n : Bool) : R2 := fun x y H Q => ∃ d e, Dp K H x d ∧ Dp K H y e ∧ d.plain = true ∧ e.plain = true ∧ min d.depth e.depth ≤ 60 ∧ Q (.bl (if n then !PyData.eqv d e else PyData.eqv d e)) H
theorem op_eqP (hu : X.A.units + 64 < cLine) : OpR X (compareOp .Eq) (rEqP X.K false) := by
  intro pins s σ H x y v u Q I rx ry h
  obtain ⟨d, e, hd, he, sd, se, hz, q⟩ := h
  obtain ⟨as, r1⟩ := Dp.reads I d x v hd rx
  obtain ⟨bs, r2⟩ := Dp.reads I e y u he ry
  exact SeqAt.eq_plain r1 r2 sd se (by omega) ⟨.bl _, H, I, rfl, q⟩
theorem op_neP (hu : X.A.units + 64 < cLine) : OpR X (compareOp .NotEq) (rEqP X.K true) := by
  intro pins s σ H x y v u Q I rx ry h
  obtain ⟨d, e, hd, he, sd, se, hz, q⟩ := h
  obtain ⟨as, r1⟩ := Dp.reads I d x v hd rx
  obtain ⟨bs, r2⟩ := Dp.reads I e y u he ry
  exact SeqAt.ne_plain r1 r2 sd se (by omega) ⟨.bl _, H, I, rfl, q⟩
theorem bs_eqP : BinS X.K cl (rEqP X.K false) pEq := by
  intro G H v u x y z Q e rv ru hz k
  unfold pEq at hz
  cases q : pEqB x y with
  | none => rw [q] at hz; cases hz
  | some b =>
    rw [q] at hz
    cases hz
    obtain ⟨h1, h2, h3, rfl⟩ := pEqB_some q
    exact ⟨_, _, (rv.mono e).dp h1, (ru.mono e).dp h2, dat_plain x, dat_plain y, h3, k _ _ (.inl ⟨rfl, .bl _⟩)⟩
theorem bs_neP : BinS X.K cl (rEqP X.K true) pNe := by
  intro G H v u x y z Q e rv ru hz k
  unfold pNe at hz
  cases q : pEqB x y with
  | none => rw [q] at hz; cases hz
  | some b =>
    rw [q] at hz
    cases hz
    obtain ⟨h1, h2, h3, rfl⟩ := pEqB_some q
    exact ⟨_, _, (rv.mono e).dp h1, (ru.mono e).dp h2, dat_plain x, dat_plain y, h3, k _ _ (.inl ⟨rfl, .bl _⟩)⟩
theorem br_eq (hu : X.A.units + 64 < cLine) : BinR X cl (compareOp .Eq) pEq := ⟨_, op_eqP hu, bs_eqP⟩
theorem br_ne (hu : X.A.units + 64 < cLine) : BinR X cl (compareOp .NotEq) pNe := ⟨_, op_neP hu, bs_neP⟩

/-- x in c -/
def pInB (x c : PV) : Option Bool :=
  match c with
  | .tup ys => if PV.isD x && PV.isDL ys && decide (min (PyData.depthAll (PV.datL ys)) (PV.dat x).depth ≤ 60) then some ((PV.datL ys).any fun d => PyData.eqv d (PV.dat x)) else none
  | .lst ys => if PV.isD x && PV.isDL ys && decide (min (PyData.depthAll (PV.datL ys)) (PV.dat x).depth ≤ 60) then some ((PV.datL ys).any fun d => PyData.eqv d (PV.dat x)) else none
  | .str z => match x with
    | .str y => if y.length = 1 then (y.cps.toList.head?).map fun c => decide (c ∈ z.cps.toList) else none
    | _ => none
  | _ => none
def pIn (x c : PV) : Option PV := (pInB x c).map PV.bl
def pNotIn (x c : PV) : Option PV := (pInB x c).map fun b => .bl (!b)
def rInP (K : PySem.W.Frag) (n : Bool) : R2 := fun x y H Q => ∃ d ds, Dp K H x d ∧ (Dp K H y (.list ds) ∨ Dp K H y (.tuple ds)) ∧ d.plain = true ∧ PyData.plainAll ds = true ∧ min (PyData.depthAll ds) d.depth ≤ 60 ∧ Q (.bl (if n then !ds.any fun z => PyData.eqv z d else ds.any fun z => PyData.eqv z d)) H
theorem op_inP (hu : X.A.units + 64 < cLine) : OpR X (compareOp .In) (rInP X.K false) := by
  intro pins s σ H x y v u Q I rx ry h
  obtain ⟨d, ds, hd, he, sd, se, hz, q⟩ := h
  obtain ⟨as, r1⟩ := Dp.reads I d x v hd rx
  rcases he with he | he
  · obtain ⟨bs, r2⟩ := Dp.reads I _ y u he ry
    exact SeqAt.in_list_data r2 r1 se sd (by omega) ⟨.bl _, H, I, rfl, q⟩
  · obtain ⟨bs, r2⟩ := Dp.reads I _ y u he ry
    exact SeqAt.in_tuple_data r2 r1 se sd (by omega) ⟨.bl _, H, I, rfl, q⟩
theorem op_notInP (hu : X.A.units + 64 < cLine) : OpR X (compareOp .NotIn) (rInP X.K true) := by
  intro pins s σ H x y v u Q I rx ry h
  obtain ⟨d, ds, hd, he, sd, se, hz, q⟩ := h
  obtain ⟨as, r1⟩ := Dp.reads I d x v hd rx
  rcases he with he | he
  · obtain ⟨bs, r2⟩ := Dp.reads I _ y u he ry
    exact SeqAt.notIn_list_data r2 r1 se sd (by omega) ⟨.bl _, H, I, rfl, q⟩
  · obtain ⟨bs, r2⟩ := Dp.reads I _ y u he ry
    exact SeqAt.notIn_tuple_data r2 r1 se sd (by omega) ⟨.bl _, H, I, rfl, q⟩
def rInSg (n : Bool) : R2 := fun x y H Q => ∃ (c : Nat) (z : Str), x = .str ⟨#[c]⟩ ∧ y = .str z ∧ Q (.bl (if n then !decide (c ∈ z.cps.toList) else decide (c ∈ z.cps.toList))) H
theorem br_in (hu : X.A.units + 64 < cLine) : BinR X cl (compareOp .In) pIn := by
  refine ⟨_, (op_inP hu).or (op_in_sign (X := X)), ?_⟩
  intro G H v u x y z Q e rv ru hz k
  unfold pIn pInB at hz
  cases y <;> try (cases hz; done)
  · -- str
    cases x <;> try (cases hz; done)
    rename_i zs ys
    dsimp only at hz
    split at hz <;> try (cases hz; done)
    rename_i hl
    cases rv
    cases ru
    obtain ⟨⟨ls⟩⟩ := ys
    cases ls with
    | nil => cases hl
    | cons c r =>
      cases r with
      | nil =>
        have hz' : PV.bl (decide (c ∈ zs.cps.toList)) = z := Option.some.inj (by simpa using hz)
        subst hz'
        exact .inr ⟨c, zs, rfl, rfl, k _ _ (.inl ⟨rfl, .bl _⟩)⟩
      | cons _ _ => simp [Str.length] at hl
  all_goals
    rename_i ys
    dsimp only at hz
    split at hz <;> try (cases hz; done)
    rename_i c
    simp only [Bool.and_eq_true, decide_eq_true_eq] at c
    cases hz
  · refine .inl ⟨_, _, (rv.mono e).dp c.1.1, .inr ((ru.mono e).dp (by unfold PV.isD; exact c.1.2)), dat_plain x, datL_plain ys, c.2, k _ _ (.inl ⟨rfl, .bl _⟩)⟩
  · refine .inl ⟨_, _, (rv.mono e).dp c.1.1, .inl ((ru.mono e).dp (by unfold PV.isD; exact c.1.2)), dat_plain x, datL_plain ys, c.2, k _ _ (.inl ⟨rfl, .bl _⟩)⟩
theorem br_notIn (hu : X.A.units + 64 < cLine) : BinR X cl (compareOp .NotIn) pNotIn := by
  refine ⟨_, (op_notInP hu).or (op_notIn_sign (X := X)), ?_⟩
  intro G H v u x y z Q e rv ru hz k
  unfold pNotIn pInB at hz
  cases y <;> try (cases hz; done)
  · -- str
    cases x <;> try (cases hz; done)
    rename_i zs ys
    dsimp only at hz
    split at hz <;> try (cases hz; done)
    rename_i hl
    cases rv
    cases ru
    obtain ⟨⟨ls⟩⟩ := ys
    cases ls with
    | nil => cases hl
    | cons c r =>
      cases r with
      | nil =>
        have hz' : PV.bl (!decide (c ∈ zs.cps.toList)) = z := Option.some.inj (by simpa using hz)
        subst hz'
        exact .inr ⟨c, zs, rfl, rfl, k _ _ (.inl ⟨rfl, .bl _⟩)⟩
      | cons _ _ => simp [Str.length] at hl
  all_goals
    rename_i ys
    dsimp only at hz
    split at hz <;> try (cases hz; done)
    rename_i c
    simp only [Bool.and_eq_true, decide_eq_true_eq] at c
    cases hz
  · refine .inl ⟨_, _, (rv.mono e).dp c.1.1, .inr ((ru.mono e).dp (by unfold PV.isD; exact c.1.2)), dat_plain x, datL_plain ys, c.2, k _ _ (.inl ⟨rfl, .bl _⟩)⟩
  · refine .inl ⟨_, _, (rv.mono e).dp c.1.1, .inl ((ru.mono e).dp (by unfold PV.isD; exact c.1.2)), dat_plain x, datL_plain ys, c.2, k _ _ (.inl ⟨rfl, .bl _⟩)⟩

/-! ### < , <= , > , >= -/
def pLtB (x y : PV) : Option Bool :=
  match x, y with
  | .int i, .int j => some (decide (i < j))
  | .str a, .str b => some (decide (a.cps.toList < b.cps.toList))
  | .tup a, .tup b => if PV.isDL a && PV.isDL b && PySem.W.alike (.tuple (PV.datL a)) (.tuple (PV.datL b)) && decide (min (PyData.depth (.tuple (PV.datL a))) (PyData.depth (.tuple (PV.datL b))) ≤ 60) then some (PySem.W.dataLt (.tuple (PV.datL a)) (.tuple (PV.datL b))) else none
  | _, _ => none
def pLt (x y : PV) : Option PV := (pLtB x y).map PV.bl
def pGt (x y : PV) : Option PV := (pLtB y x).map PV.bl
def pLe (x y : PV) : Option PV := (pLtB y x).map fun b => .bl (!b)
def pGe (x y : PV) : Option PV := (pLtB x y).map fun b => .bl (!b)
def rLtP (K : PySem.W.Frag) : R2 := fun x y H Q => ∃ d e, Dp K H x d ∧ Dp K H y e ∧ PySem.W.alike d e = true ∧ d ≠ .none ∧ min d.depth e.depth ≤ 60 ∧ Q (.bl (PySem.W.dataLt d e)) H
theorem op_ltP (hu : X.A.units + 64 < cLine) : OpR X (compareOp .Lt) (rLtP X.K) := by
  intro pins s σ H x y v u Q I rx ry h
  obtain ⟨d, e, hd, he, al, nn, hz, q⟩ := h
  obtain ⟨as, r1⟩ := Dp.reads I d x v hd rx
  obtain ⟨bs, r2⟩ := Dp.reads I e y u he ry
  exact PySem.W.lt_data r1 r2 al nn (by omega) ⟨.bl _, H, I, rfl, q⟩
theorem br_lt (hu : X.A.units + 64 < cLine) : BinR X cl (compareOp .Lt) pLt := by
  refine ⟨_, (op_ltP hu).or ((op_lt (X := X)).or op_lt_str), ?_⟩
  intro G H v u x y z Q e rv ru hz k
  unfold pLt pLtB at hz
  cases x <;> cases y <;> try (cases hz; done)
  · cases hz
    cases rv
    cases ru
    exact .inr (.inl ⟨_, _, rfl, rfl, k _ _ (.inl ⟨rfl, .bl _⟩)⟩)
  · cases hz
    cases rv
    cases ru
    exact .inr (.inr ⟨_, _, rfl, rfl, k _ _ (.inl ⟨rfl, .bl _⟩)⟩)
  · rename_i a b
    dsimp only at hz
    split at hz <;> try (cases hz; done)
    rename_i c
    simp only [Bool.and_eq_true, decide_eq_true_eq] at c
    cases hz
    exact .inl ⟨_, _, (rv.mono e).dp (by unfold PV.isD; exact c.1.1.1), (ru.mono e).dp (by unfold PV.isD; exact c.1.1.2), c.1.2, (fun q => by cases q), c.2, k _ _ (.inl ⟨rfl, .bl _⟩)⟩
def pGtI (x y : PV) : Option PV := match x, y with
    | .int i, .int j => some (.bl (decide (j < i)))
    | .str a, .str b => some (.bl (decide (b.cps.toList < a.cps.toList)))
    | _, _ => none
def pLeI (x y : PV) : Option PV := match x, y with
    | .int i, .int j => some (.bl (decide (i ≤ j)))
    | .str a, .str b => some (.bl (!decide (b.cps.toList < a.cps.toList)))
    | _, _ => none
def pGeI (x y : PV) : Option PV := match x, y with
    | .int i, .int j => some (.bl (decide (j ≤ i)))
    | .str a, .str b => some (.bl (!decide (a.cps.toList < b.cps.toList)))
    | _, _ => none
def rGtS : R2 := fun x y H Q => ∃ i j, x = .str i ∧ y = .str j ∧ Q (.bl (decide (j.cps.toList < i.cps.toList))) H
theorem br_gt : BinR X cl (compareOp .Gt) pGtI := by
  refine ⟨_, (op_gt (X := X)).or op_gt_str, ?_⟩
  intro G H v u x y z Q e rv ru hz k
  cases x <;> cases y <;> try (cases hz; done)
  · cases hz
    cases rv
    cases ru
    exact .inl ⟨_, _, rfl, rfl, k _ _ (.inl ⟨rfl, .bl _⟩)⟩
  · cases hz
    cases rv
    cases ru
    exact .inr ⟨_, _, rfl, rfl, k _ _ (.inl ⟨rfl, .bl _⟩)⟩
theorem br_le : BinR X cl (compareOp .LtE) pLeI := by
  refine ⟨_, (op_le (X := X)).or op_le_str, ?_⟩
  intro G H v u x y z Q e rv ru hz k
  cases x <;> cases y <;> try (cases hz; done)
  · cases hz
    cases rv
    cases ru
    exact .inl ⟨_, _, rfl, rfl, k _ _ (.inl ⟨rfl, .bl _⟩)⟩
  · cases hz
    cases rv
    cases ru
    exact .inr ⟨_, _, rfl, rfl, k _ _ (.inl ⟨rfl, .bl _⟩)⟩
theorem br_ge : BinR X cl (compareOp .GtE) pGeI := by
  refine ⟨_, (op_ge (X := X)).or op_ge_str, ?_⟩
  intro G H v u x y z Q e rv ru hz k
  cases x <;> cases y <;> try (cases hz; done)
  · cases hz
    cases rv
    cases ru
    exact .inl ⟨_, _, rfl, rfl, k _ _ (.inl ⟨rfl, .bl _⟩)⟩
  · cases hz
    cases rv
    cases ru
    exact .inr ⟨_, _, rfl, rfl, k _ _ (.inl ⟨rfl, .bl _⟩)⟩
end
end Kp
set_option Elab.async false
set_option linter.all false
set_option maxRecDepth 100000
set_option maxHeartbeats 2000000
namespace Kp
open PySem PyProof.Rows L2

/-! ### tuples that are made, with their objects told -/
section
variable {X : Cx} {pos : Pos}
def tupO (its : List Value) : Obj := { cls := .type "tuple", data := .seq its.toArray }
theorem tup_laid {pins : List (Addr × Obj)} {σ : L2.St} {H : Hp} {s : Shared} {h' : Heap} {t' : Nat} {ys : List V} {us : List Value} (I : Inv X pins σ H { s with heap := h', toks := t' }) (r : Vals ys us) (hz : ys.length ≤ sizeLine) :
    Inv X pins σ (upd H h'.objs.size (.frz (tupO us) (.tup ys))) { s with heap := h'.push (tupO us), toks := t' } :=
  I.laid (t' := t') (fun _ _ e => Heap.get?_push_of_some _ e) (Nat.le_refl _) ⟨Heap.get?_push_size _ rfl, hz, us, r, IsTup.new _ _⟩
def tTupF (t : TA) : TE := fun σ H Q => t σ H fun xs H1 => xs.length ≤ sizeLine ∧ ∀ (p : Addr) (o : Obj), o.dict = none → H1 p = none → Q (.ref p) (upd H1 p (.frz o (.tup xs)))
theorem pe_tupF {es : List Expr} {t : TA} {x1} (h : PA X es t) : PE X (.Tuple es x1 pos) (tTupF t) := by
  refine ⟨fun pins s σ H Q I hq => ?_⟩
  refine wpAny_Tuple_spliced (thn (h.run pos pins s σ H _ I hq) fun us s1 ⟨xs, H1, I1, r, z, q⟩ => ⟨by rw [← r.length]; exact z, ?_⟩)
  obtain ⟨hp, g, d, tk, os⟩ := s1
  exact ⟨.ref hp.objs.size, _, tup_laid (s := ⟨hp, g, d, tk, os⟩) (h' := hp) (t' := tk) I1 r z, rfl, q _ _ rfl (I1.hok.fresh (Nat.le_refl _))⟩
def rTupleOfF (K : PySem.W.Frag) : List V → Hp → VK → Prop := fun xs H Q => ∃ p ys, xs = [V.ref p] ∧ ((SqL K H p ys ∧ ∀ (l : Addr) (o : Obj), o.dict = none → H l = none → Q (.ref l) (upd H l (.frz o (.tup ys)))) ∨ (SqT K H p ys ∧ Q (.ref p) H))
theorem cr_tupleF : CallR X (.type "tuple") (rTupleOfF X.K) := by
  intro pins s σ H xs us Q I r h
  obtain ⟨p, ys, rfl, h⟩ := h
  obtain ⟨u, rfl, rx⟩ := vals1 r
  obtain rfl : u = Value.ref p := rx
  rcases h with ⟨hq, q⟩ | ⟨hq, q⟩
  · obtain ⟨its, rv, pl, hz⟩ := I.list hq
    refine call_tuple_list pl.isList (fun h' kp => ?_) (by simp only [List.size_toArray]; have := rv.length; omega)
    have I1 : Inv X pins σ H { s with heap := h', toks := s.toks } := I.kept (t' := s.toks) kp
    exact ⟨.ref h'.objs.size, _, tup_laid I1 rv hz, rfl, q _ _ rfl (I1.hok.fresh (Nat.le_refl _))⟩
  · obtain ⟨its, rv, pl, hz⟩ := I.tuple hq
    exact call_tuple_same pl ⟨.ref p, H, I, rfl, q⟩
def rSlF (K : PySem.W.Frag) : V → Option Int → Option Int → Hp → VK → Prop := fun x lo hi H Q => ∃ a xs, x = .ref a ∧ SqT K H a xs ∧
  (HT.sIx xs.length 0 lo = 0 ∧ HT.sIx xs.length xs.length hi = xs.length → Q (.ref a) H) ∧ (¬ (HT.sIx xs.length 0 lo = 0 ∧ HT.sIx xs.length xs.length hi = xs.length) → ∀ (p : Addr) (o : Obj), o.dict = none → H p = none → Q (.ref p) (upd H p (.frz o (.tup (cutV xs lo hi)))))
theorem sl_tupF : SlR X (rSlF X.K) := by
  intro pins s σ H x v vl vu lo hi sl Q I rx hs pl pu h
  obtain ⟨a, xs, rfl, hx, q1, q2⟩ := h
  obtain rfl : v = Value.ref a := rx
  obtain ⟨its, rv, ht, hz⟩ := I.tuple hx
  have hlen : its.toArray.size = xs.length := by rw [List.size_toArray]; exact rv.length.symm
  refine ⟨"tuple", _, PyProof.Rows.slot_tuple_getitem.lookup, ht.typeIs, ?_⟩
  by_cases hw : HT.sIx xs.length 0 lo = 0 ∧ HT.sIx xs.length xs.length hi = xs.length
  · exact getItem_tuple_whole ht hs pl pu (by rw [hlen]; exact hw) ⟨.ref a, H, I, rfl, q1 hw⟩
  · refine HT.getItem_tuple_cut ht hs pl pu (by rw [hlen]; exact hw) ?_ (by rw [hlen]; exact hz)
    rw [hlen]
    have rc : Vals (cutV xs lo hi) _ := (rv.drop (HT.sIx xs.length 0 lo)).take (HT.sIx xs.length xs.length hi - HT.sIx xs.length 0 lo)
    obtain ⟨hp, g, d, tk, os⟩ := s
    exact ⟨.ref hp.objs.size, _, tup_laid (s := ⟨hp, g, d, tk, os⟩) (h' := hp) (t' := tk) I rc (Nat.le_trans (cutV_length xs lo hi) hz), rfl, q2 hw _ _ rfl (I.hok.fresh (Nat.le_refl _))⟩
def rCatF (K : PySem.W.Frag) : R2 := fun x y H Q => ∃ a b xs ys, x = .ref a ∧ y = .ref b ∧ SqT K H a xs ∧ SqT K H b ys ∧ xs.length + ys.length ≤ sizeLine ∧
  (xs = [] → Q (.ref b) H) ∧ (xs ≠ [] → ys = [] → Q (.ref a) H) ∧ (xs ≠ [] → ys ≠ [] → ∀ (p : Addr) (o : Obj), o.dict = none → H p = none → Q (.ref p) (upd H p (.frz o (.tup (xs ++ ys)))))
theorem op_catF : OpR X (binaryOp .Add) (rCatF X.K) := by
  intro pins s σ H x y v u Q I rx ry h
  obtain ⟨a, b, xs, ys, rfl, rfl, ha, hb, hz, q0, q1, q2⟩ := h
  obtain rfl : v = Value.ref a := rx
  obtain rfl : u = Value.ref b := ry
  obtain ⟨its, r1, p1, _⟩ := I.tuple ha
  obtain ⟨its2, r2, p2, _⟩ := I.tuple hb
  by_cases hx : xs = []
  · subst hx
    cases r1
    exact cat_tup0 p1 p2 ⟨.ref b, H, I, rfl, q0 rfl⟩
  · refine HT.cat_tup p1 p2 (fun z => hx (r1.nil_iff.mp z)) (fun z => ⟨.ref a, H, I, rfl, q1 hx (r2.nil_iff.mp z)⟩) (fun z => ?_) (by rw [← r1.length, ← r2.length]; exact hz)
    obtain ⟨hp, g, d, tk, os⟩ := s
    exact ⟨.ref hp.objs.size, _, tup_laid (s := ⟨hp, g, d, tk, os⟩) (h' := hp) (t' := tk) I (r1.append r2) (by rw [List.length_append]; exact hz), rfl, q2 hx (fun w => z (r2.nil_iff.mpr w)) _ _ rfl (I.hok.fresh (Nat.le_refl _))⟩
end
end Kp
set_option Elab.async false
set_option linter.all false
set_option maxRecDepth 100000
set_option maxHeartbeats 2000000
namespace Kp
open PySem PyProof.Rows L2

section
variable {X : Cx} {cl : Nat → Addr} {W : WX} {pos : Pos}
theorem repL_nil_iff {K : PySem.W.Frag} {H : Hp} {vs : List V} {xs : List PV} (r : RepL K cl H vs xs) : vs = [] ↔ xs = [] := by
  cases r <;> simp
/-! ### + - * % // ** -/
def pAdd (x y : PV) : Option PV := match x, y with
  | .int i, .int j => some (.int (i + j))
  | .str a, .str b => if a.length + b.length ≤ sizeLine then some (.str (a ++ b)) else none
  | .tup a, .tup b => if a.length + b.length ≤ sizeLine then some (.tup (a ++ b)) else none
  | .lst a, .lst b => if a.length + b.length ≤ sizeLine then some (.lst (a ++ b)) else none
  | _, _ => none
theorem str_append_len (a b : Str) : (a ++ b).length = a.length + b.length := by
  obtain ⟨a⟩ := a
  obtain ⟨b⟩ := b
  show (a ++ b).size = a.size + b.size
  rw [Array.size_append]
theorem br_add : BinR X cl (binaryOp .Add) pAdd := by
  refine ⟨_, (op_add (X := X)).or (op_add_str.or (op_catF.or op_cat)), ?_⟩
  intro G H v u x y z Q e rv ru hz k
  unfold pAdd at hz
  cases x <;> cases y <;> try (cases hz; done)
  · cases hz
    cases rv
    cases ru
    exact .inl ⟨_, _, rfl, rfl, k _ _ (.inl ⟨rfl, .int _⟩)⟩
  · dsimp only at hz
    split at hz <;> try (cases hz; done)
    rename_i c
    cases hz
    cases rv
    cases ru
    exact .inr (.inl ⟨_, _, rfl, rfl, c, k _ _ (.inl ⟨rfl, .str _ (by rw [str_append_len]; exact c)⟩)⟩)
  · dsimp only at hz
    split at hz <;> try (cases hz; done)
    rename_i c
    cases hz
    cases rv with
    | @tup a1 vs1 xs1 hs z1 hr =>
      cases ru with
      | @tup a2 vs2 xs2 hs2 z2 hr2 =>
        have hz : (vs1 ++ vs2).length ≤ sizeLine := by rw [List.length_append, hr.length, hr2.length]; exact c
        refine .inr (.inr (.inl ⟨_, _, _, _, rfl, rfl, sqt_mono e hs, sqt_mono e hs2, by rw [hr.length, hr2.length]; exact c, fun z => ?_, fun z z2 => ?_, fun z z2 p o ho hp => ?_⟩))
        · have z' := (repL_nil_iff hr).mp z
          subst z'
          exact k _ _ (.inl ⟨rfl, .tup hs2 z2 hr2⟩)
        · have z' := (repL_nil_iff hr2).mp z2
          subst z'
          rw [List.append_nil] at k
          exact k _ _ (.inl ⟨rfl, .tup hs z1 hr⟩)
        · exact k _ _ (.inr ⟨p, _, hp, rfl, .tup (tupAt_new ho) hz ((hr.mono (same_new (e.free hp))).append (hr2.mono (same_new (e.free hp))))⟩)
  · dsimp only at hz
    split at hz <;> try (cases hz; done)
    rename_i c
    cases hz
    cases rv with
    | @lst a1 vs1 xs1 hs z1 hr =>
      cases ru with
      | @lst a2 vs2 xs2 hs2 z2 hr2 =>
        have hz : (vs1 ++ vs2).length ≤ sizeLine := by rw [List.length_append, hr.length, hr2.length]; exact c
        exact .inr (.inr (.inr ⟨_, _, _, _, rfl, rfl, e _ _ hs, e _ _ hs2, by rw [hr.length, hr2.length]; exact c, fun p hp => k _ _ (.inr ⟨p, _, hp, rfl, .lst upd_same hz ((hr.mono (same_new (e.free hp))).append (hr2.mono (same_new (e.free hp))))⟩)⟩))
def pSub (x y : PV) : Option PV := match x, y with
  | .int i, .int j => some (.int (i - j))
  | _, _ => none
theorem br_sub : BinR X cl (binaryOp .Sub) pSub := by
  refine ⟨_, op_sub, ?_⟩
  intro G H v u x y z Q e rv ru hz k
  unfold pSub at hz
  cases x <;> cases y <;> try (cases hz; done)
  cases hz
  cases rv
  cases ru
  exact ⟨_, _, rfl, rfl, k _ _ (.inl ⟨rfl, .int _⟩)⟩
/-- one factor small -/
def pMul (x y : PV) : Option PV := match x, y with
  | .int i, .int j => if (decide (-(2 ^ 64) < i) && decide (i < 2 ^ 64)) || (decide (-(2 ^ 64) < j) && decide (j < 2 ^ 64)) then some (.int (i * j)) else none
  | _, _ => none
theorem br_mul : BinR X cl (binaryOp .Mult) pMul := by
  refine ⟨_, op_mul, ?_⟩
  intro G H v u x y z Q e rv ru hz k
  unfold pMul at hz
  cases x <;> cases y <;> try (cases hz; done)
  dsimp only at hz
  split at hz <;> try (cases hz; done)
  rename_i c
  simp only [Bool.or_eq_true, Bool.and_eq_true, decide_eq_true_eq] at c
  cases hz
  cases rv
  cases ru
  exact ⟨_, _, rfl, rfl, c, k _ _ (.inl ⟨rfl, .int _⟩)⟩
def pMod (x y : PV) : Option PV := match x, y with
  | .int i, .int j => if 0 < j then some (.int (i % j)) else none
  | _, _ => none
theorem br_mod : BinR X cl (binaryOp .Mod) pMod := by
  refine ⟨_, op_mod, ?_⟩
  intro G H v u x y z Q e rv ru hz k
  unfold pMod at hz
  cases x <;> cases y <;> try (cases hz; done)
  dsimp only at hz
  split at hz <;> try (cases hz; done)
  rename_i c
  cases hz
  cases rv
  cases ru
  exact ⟨_, _, rfl, rfl, c, k _ _ (.inl ⟨rfl, .int _⟩)⟩
def pDiv (x y : PV) : Option PV := match x, y with
  | .int i, .int j => if 0 < j ∧ j < 1073741824 then some (.int (i / j)) else none
  | _, _ => none
theorem br_div : BinR X cl (binaryOp .FloorDiv) pDiv := by
  refine ⟨_, op_fdiv, ?_⟩
  intro G H v u x y z Q e rv ru hz k
  unfold pDiv at hz
  cases x <;> cases y <;> try (cases hz; done)
  dsimp only at hz
  split at hz <;> try (cases hz; done)
  rename_i c
  cases hz
  cases rv
  cases ru
  exact ⟨_, _, rfl, rfl, c, k _ _ (.inl ⟨rfl, .int _⟩)⟩
def pPow (x y : PV) : Option PV := match x, y with
  | .int i, .int j => if 0 ≤ j ∧ j ≤ 1000000 ∧ i.natAbs < 2 ^ 64 then some (.int (i ^ j.toNat)) else none
  | _, _ => none
theorem br_pow : BinR X cl (binaryOp .Pow) pPow := by
  refine ⟨_, op_pow, ?_⟩
  intro G H v u x y z Q e rv ru hz k
  unfold pPow at hz
  cases x <;> cases y <;> try (cases hz; done)
  dsimp only at hz
  split at hz <;> try (cases hz; done)
  rename_i c
  cases hz
  cases rv
  cases ru
  exact ⟨_, _, rfl, rfl, c, k _ _ (.inl ⟨rfl, .int _⟩)⟩
/-- -x -/
def pNeg (x : PV) : Option PV := match x with
  | .int i => some (.int (-i))
  | _ => none
def mUn (g : PV → Option PV) (m : M PV) : M PV := bnd m fun x => lift (g x)
theorem em_neg {a : Expr} {m : M PV} (h : EM X cl W a m) : EM X cl W (.UnaryOp .USub a pos) (mUn pNeg m) := by
  obtain ⟨t, p, d⟩ := h
  refine ⟨_, pe_un un_neg p, fun F G H σ S rr Q st hm hp => ?_⟩
  refine d.step st hm hp fun x S1 v G1 H1 hm1 s1 st1 rv hp1 => ?_
  obtain ⟨z, ez, rfl⟩ := lift_eq hm1
  unfold pNeg at ez
  cases x <;> try (cases ez; done)
  cases ez
  cases rv
  exact ⟨_, rfl, hp1 _ _ _ (Same.refl _) st1 (.int _)⟩

/-! ### x is None -/
def mIsN (n : Bool) (m : M PV) : M PV := bnd m fun x => ret (match x with
  | .non => .bl (!n)
  | _ => .bl n)
theorem rep_non {K : PySem.W.Frag} {H : Hp} {v : V} {x : PV} (r : Rep K cl H v x) : decide (v = V.non) = (match x with | .non => true | _ => false) := by
  cases r <;> rfl
theorem em_isN {a : Expr} {j p'} {m : M PV} (h : EM X cl W a m) : EM X cl W (.Compare a [.Is] [.Constant .none j p'] pos) (mIsN false m) := by
  obtain ⟨t, p, d⟩ := h
  refine ⟨_, pe_cmp (pc_isN p), fun F G H σ S rr Q st hm hp => ?_⟩
  refine d.step st hm hp fun x S1 v G1 H1 hm1 s1 st1 rv hp1 => ?_
  cases hm1
  rw [rep_non rv]
  refine hp1 _ _ _ (Same.refl _) st1 ?_
  cases x <;> exact .bl _
theorem em_notN {a : Expr} {j p'} {m : M PV} (h : EM X cl W a m) : EM X cl W (.Compare a [.IsNot] [.Constant .none j p'] pos) (mIsN true m) := by
  obtain ⟨t, p, d⟩ := h
  refine ⟨_, pe_cmp (pc_notN p), fun F G H σ S rr Q st hm hp => ?_⟩
  refine d.step st hm hp fun x S1 v G1 H1 hm1 s1 st1 rv hp1 => ?_
  cases hm1
  rw [rep_non rv]
  refine hp1 _ _ _ (Same.refl _) st1 ?_
  cases x <;> exact .bl _

/-! ### tests -/
theorem does_tB {t : TE} {m : M PV} (d : Does X.K cl W (RV X.K cl) t m) : Does X.K cl W RB (tB t) (mTest m) := by
  intro F G H σ S rr Q st hm hp
  refine d.step (R2 := RB) st hm hp fun y S1 v G1 H1 hm1 s1 st1 rv hp1 => ?_
  cases y <;> simp only [asB] at hm1 <;> try (cases hm1; done)
  cases hm1
  cases rv
  exact ⟨_, rfl, hp1 _ _ _ (Same.refl _) st1 rfl⟩
theorem tm_isN {a : Expr} {j p'} {m : M PV} (h : EM X cl W a m) : TM X cl W (.Compare a [.Is] [.Constant .none j p'] pos) (mTest (mIsN false m)) := by
  obtain ⟨t, p, d⟩ := h
  refine ⟨_, pt_cmp (pc_isN p), does_tB fun F G H σ S rr Q st hm hp => ?_⟩
  refine d.step st hm hp fun x S1 v G1 H1 hm1 s1 st1 rv hp1 => ?_
  cases hm1
  rw [rep_non rv]
  refine hp1 _ _ _ (Same.refl _) st1 ?_
  cases x <;> exact .bl _
theorem tm_notN {a : Expr} {j p'} {m : M PV} (h : EM X cl W a m) : TM X cl W (.Compare a [.IsNot] [.Constant .none j p'] pos) (mTest (mIsN true m)) := by
  obtain ⟨t, p, d⟩ := h
  refine ⟨_, pt_cmp (pc_notN p), does_tB fun F G H σ S rr Q st hm hp => ?_⟩
  refine d.step st hm hp fun x S1 v G1 H1 hm1 s1 st1 rv hp1 => ?_
  cases hm1
  rw [rep_non rv]
  refine hp1 _ _ _ (Same.refl _) st1 ?_
  cases x <;> exact .bl _
/-- an expression's truth as a test: its value is a bool -/
theorem tm_val {e : Expr} {m : M PV} (h : EM X cl W e m) (he : ∀ whole, isTrue e X.env whole = (do let v ← whole; standAt e.pos; holding [v] (truthy v)) := by intro _; rfl) : TM X cl W e (mTest m) := by
  obtain ⟨t, p, d⟩ := h
  exact ⟨_, pt_val p he, does_tB d⟩
/-- a value's truth -/
def truP : PV → Option Bool
  | .non => some false
  | .bl b => some b
  | .int i => some (i != 0)
  | .str x => some ((x.length : Int) != 0)
  | .tup xs => some (!xs.isEmpty)
  | .lst xs => some (!xs.isEmpty)
  | .frl xs => some (!xs.isEmpty)
  | .dct kvs => some (!kvs.isEmpty)
  | .obj _ _ => none
  | .glb _ => none
  | .xo _ _ _ _ => none
  | .raw _ => none
theorem repL_empty {K : PySem.W.Frag} {H : Hp} {vs : List V} {xs : List PV} (r : RepL K cl H vs xs) : vs.isEmpty = xs.isEmpty := by cases r <;> rfl
theorem repK_empty {K : PySem.W.Frag} {H : Hp} {vs : List (Key × V)} {xs : List (PV × PV)} (r : RepK K cl H vs xs) : vs.isEmpty = xs.isEmpty := by cases r <;> rfl
theorem tru_rep {K : PySem.W.Frag} {H : Hp} {v : V} {x : PV} {b : Bool} (r : Rep K cl H v x) (h : truP x = some b) : TruV K v H b := by
  unfold truP at h
  cases r <;> try (cases h; done)
  all_goals try cases h
  · exact rfl
  · exact rfl
  · exact rfl
  · rename_i x h
    exact ⟨h, rfl⟩
  · rename_i a ns h
    exact .inl ⟨_, h, by simp⟩
  · rename_i a vs xs hs z hr
    exact .inr (.inl ⟨_, hs.sq, by rw [repL_empty hr]⟩)
  · rename_i a vs xs hs z hr
    exact .inl ⟨_, SqL.of hs, by rw [repL_empty hr]⟩
  · rename_i a vs xs hs hr
    exact .inr (.inr ⟨_, hs, by rw [repK_empty hr]⟩)
def mTru (m : M PV) : M Bool := bnd m fun x => lift (truP x)
theorem tm_tru {e : Expr} {m : M PV} (h : EM X cl W e m) (he : ∀ whole, isTrue e X.env whole = (do let v ← whole; standAt e.pos; holding [v] (truthy v)) := by intro _; rfl) : TM X cl W e (mTru m) := by
  obtain ⟨t, p, d⟩ := h
  refine ⟨_, pt_truth p he, fun F G H σ S rr Q st hm hp => ?_⟩
  refine d.step (R2 := RB) st hm hp fun y S1 v G1 H1 hm1 s1 st1 rv hp1 => ?_
  obtain ⟨z, ez, rfl⟩ := lift_eq hm1
  exact ⟨z, tru_rep (rv.mono st1.ex) ez, hp1 _ _ _ (Same.refl _) st1 rfl⟩
/-- not, and, or of tests -/
def mNot (m : M Bool) : M Bool := bnd m fun b => ret (!b)
def mAnd (m n : M Bool) : M Bool := bnd m fun b => if b = true then n else ret false
def mOr (m n : M Bool) : M Bool := bnd m fun b => if b = true then ret true else n
theorem tm_not {a : Expr} {m : M Bool} (h : TM X cl W a m) : TM X cl W (.UnaryOp .Not a pos) (mNot m) := by
  obtain ⟨t, p, d⟩ := h
  refine ⟨_, pt_not p, fun F G H σ S rr Q st hm hp => ?_⟩
  refine d.step (R2 := RB) st hm hp fun y S1 v G1 H1 hm1 s1 st1 rv hp1 => ?_
  cases hm1
  cases rv
  exact hp1 _ _ _ (Same.refl _) st1 rfl
def WM (X : Cx) (cl : Nat → Addr) (W : WX) (e : Expr) (m : M Bool) : Prop := ∃ t, PW X e t ∧ Does X.K cl W RB t m
theorem tm_w {e : Expr} {m : M Bool} (h : WM X cl W e m) : TM X cl W e m := by
  obtain ⟨t, p, d⟩ := h
  exact ⟨t, p.pt, d⟩
theorem wm_and1 {a : Expr} {m : M Bool} (h : TM X cl W a m) : WM X cl W (.BoolOp .And [a] pos) m := by
  obtain ⟨t, p, d⟩ := h
  exact ⟨t, pw_and1 p, d⟩
theorem wm_or1 {a : Expr} {m : M Bool} (h : TM X cl W a m) : WM X cl W (.BoolOp .Or [a] pos) m := by
  obtain ⟨t, p, d⟩ := h
  exact ⟨t, pw_or1 p, d⟩
theorem wm_and {a b : Expr} {rest : List Expr} {m n : M Bool} (h : TM X cl W a m) (h2 : WM X cl W (.BoolOp .And (b :: rest) pos) n) : WM X cl W (.BoolOp .And (a :: b :: rest) pos) (mAnd m n) := by
  obtain ⟨t, p, d⟩ := h
  obtain ⟨u, q, du⟩ := h2
  refine ⟨_, pw_and p q, fun F G H σ S rr Q st hm hp => ?_⟩
  refine d.step (R2 := RB) st hm hp fun y S1 v G1 H1 hm1 s1 st1 rv hp1 => ?_
  cases rv
  cases y with
  | true => exact du F G1 H1 σ S1 _ _ st1 hm1 hp1
  | false =>
    cases hm1
    exact hp1 _ _ _ (Same.refl _) st1 rfl
theorem wm_or {a b : Expr} {rest : List Expr} {m n : M Bool} (h : TM X cl W a m) (h2 : WM X cl W (.BoolOp .Or (b :: rest) pos) n) : WM X cl W (.BoolOp .Or (a :: b :: rest) pos) (mOr m n) := by
  obtain ⟨t, p, d⟩ := h
  obtain ⟨u, q, du⟩ := h2
  refine ⟨_, pw_or p q, fun F G H σ S rr Q st hm hp => ?_⟩
  refine d.step (R2 := RB) st hm hp fun y S1 v G1 H1 hm1 s1 st1 rv hp1 => ?_
  cases rv
  cases y with
  | false => exact du F G1 H1 σ S1 _ _ st1 hm1 hp1
  | true =>
    cases hm1
    exact hp1 _ _ _ (Same.refl _) st1 rfl
/-- not, and, or as values that are bools -/
def mB (m : M Bool) : M PV := bnd m fun b => ret (.bl b)
theorem em_one {op : BoolOp} {a : Expr} {m : M PV} (h : EM X cl W a m) : EM X cl W (.BoolOp op [a] pos) (mB (mTest m)) := by
  obtain ⟨t, p, d⟩ := h
  refine ⟨_, pe_one p, fun F G H σ S rr Q st hm hp => ?_⟩
  have e : m S = some rr := by
    rcases bnd_some hm with ⟨b, S1, e1, e2⟩ | ⟨c, fs, S1, e1, e2⟩
    · rcases bnd_some e1 with ⟨x, S2, e3, e4⟩ | ⟨c, fs, S2, e3, e4⟩
      · cases x <;> try (cases e4; done)
        cases e4
        cases e2
        exact e3
      · cases e4
    · subst e2
      rcases bnd_some e1 with ⟨x, S2, e3, e4⟩ | ⟨c', fs', S2, e3, e4⟩
      · cases x <;> try (cases e4; done)
      · cases e4
        exact e3
  exact d F G H σ S rr Q st e hp
theorem em_and {a b : Expr} {rest : List Expr} {m : M PV} {n : M Bool} (h : EM X cl W a m) (h2 : EM X cl W (.BoolOp .And (b :: rest) pos) (mB n)) : EM X cl W (.BoolOp .And (a :: b :: rest) pos) (mB (mAnd (mTest m) n)) := by
  obtain ⟨t, p, d⟩ := h
  obtain ⟨u, q, du⟩ := h2
  refine ⟨_, pe_and p q, fun F G H σ S rr Q st hm hp => ?_⟩
  have hm' : bnd m (fun x => bnd (asB x) fun b => if b = true then mB n else ret (.bl false)) S = some rr := by
    rw [← hm]
    unfold mB mAnd mTest bnd
    cases m S with
    | none => rfl
    | some r => cases r with
      | ok y S1 => cases y <;> try rfl
                   rename_i b
                   cases b <;> rfl
      | ex c fs S1 => rfl
  refine d.step st hm' hp fun y S1 v G1 H1 hm1 s1 st1 rv hp1 => ?_
  cases y <;> try (cases hm1; done)
  rename_i b
  cases rv
  refine ⟨b, rfl, ?_⟩
  cases b with
  | true => exact du F G1 H1 σ S1 _ _ st1 hm1 hp1
  | false =>
    cases hm1
    exact hp1 _ _ _ (Same.refl _) st1 (.bl _)
theorem em_or {a b : Expr} {rest : List Expr} {m : M PV} {n : M Bool} (h : EM X cl W a m) (h2 : EM X cl W (.BoolOp .Or (b :: rest) pos) (mB n)) : EM X cl W (.BoolOp .Or (a :: b :: rest) pos) (mB (mOr (mTest m) n)) := by
  obtain ⟨t, p, d⟩ := h
  obtain ⟨u, q, du⟩ := h2
  refine ⟨_, pe_or p q, fun F G H σ S rr Q st hm hp => ?_⟩
  have hm' : bnd m (fun x => bnd (asB x) fun b => if b = true then ret (.bl true) else mB n) S = some rr := by
    rw [← hm]
    unfold mB mOr mTest bnd
    cases m S with
    | none => rfl
    | some r => cases r with
      | ok y S1 => cases y <;> try rfl
                   rename_i b
                   cases b <;> rfl
      | ex c fs S1 => rfl
  refine d.step st hm' hp fun y S1 v G1 H1 hm1 s1 st1 rv hp1 => ?_
  cases y <;> try (cases hm1; done)
  rename_i b
  cases rv
  refine ⟨b, rfl, ?_⟩
  cases b with
  | false => exact du F G1 H1 σ S1 _ _ st1 hm1 hp1
  | true =>
    cases hm1
    exact hp1 _ _ _ (Same.refl _) st1 (.bl _)
theorem em_not {a : Expr} {m : M PV} (h : EM X cl W a m) : EM X cl W (.UnaryOp .Not a pos) (mB (mNot (mTest m))) := by
  obtain ⟨t, p, d⟩ := h
  refine ⟨_, pe_not p, fun F G H σ S rr Q st hm hp => ?_⟩
  have hm' : bnd m (fun x => bnd (asB x) fun b => ret (.bl (!b))) S = some rr := by
    rw [← hm]
    unfold mB mNot mTest bnd
    cases m S with
    | none => rfl
    | some r => cases r with
      | ok y S1 => cases y <;> rfl
      | ex c fs S1 => rfl
  refine d.step st hm' hp fun y S1 v G1 H1 hm1 s1 st1 rv hp1 => ?_
  cases y <;> try (cases hm1; done)
  rename_i b
  cases rv
  cases hm1
  exact ⟨b, rfl, hp1 _ _ _ (Same.refl _) st1 (.bl _)⟩
/-- a if t else b -/
def mIfE (c : M Bool) (m n : M PV) : M PV := bnd c fun b => if b = true then m else n
theorem em_ife {c a b : Expr} {mc : M Bool} {m n : M PV} (hc : TM X cl W c mc) (ha : EM X cl W a m) (hb : EM X cl W b n) : EM X cl W (.IfExp c a b pos) (mIfE mc m n) := by
  obtain ⟨tc, pc, dc⟩ := hc
  obtain ⟨ta, pa, da⟩ := ha
  obtain ⟨tb, pb, db⟩ := hb
  refine ⟨_, pe_ifExp pc pa pb, fun F G H σ S rr Q st hm hp => ?_⟩
  refine dc.step (R2 := RV X.K cl) st hm hp fun y S1 v G1 H1 hm1 s1 st1 rv hp1 => ?_
  cases rv
  cases y with
  | true => exact da F G1 H1 σ S1 _ _ st1 hm1 hp1
  | false => exact db F G1 H1 σ S1 _ _ st1 hm1 hp1
/-- a op b op' c -/
def mChain (g g' : PV → PV → Option PV) (ma mb mc : M PV) : M PV := bnd ma fun x => bnd mb fun y => bnd (lift (g x y)) fun z => bnd (asB z) fun b => if b = true then bnd mc fun u => lift (g' y u) else ret (.bl false)
theorem does_chain {g g' : PV → PV → Option PV} {r r' : R2} {ta tb tc : TE} {ma mb mc : M PV} (hr : BinS X.K cl r g) (hr' : BinS X.K cl r' g') (h1 : Does X.K cl W (RV X.K cl) ta ma) (h2 : Does X.K cl W (RV X.K cl) tb mb) (h3 : Does X.K cl W (RV X.K cl) tc mc) :
    Does X.K cl W (RV X.K cl) (tChain r r' ta tb tc) (mChain g g' ma mb mc) := by
  intro F G H σ S rr Q st hm hp
  refine h1.step st hm hp fun x S1 v G1 H1 hm1 s1 st1 rv hp1 => ?_
  refine h2.step st1 hm1 hp1 fun y S2 u G2 H2 hm2 s2 st2 ru hp2 => ?_
  obtain ⟨z, ez, hm3⟩ := lift_bnd hm2
  cases z <;> try (cases hm3; done)
  rename_i b
  refine hr G2 H2 v u x y _ _ st2.ex (rv.mono s2) ru ez fun w H' q => ?_
  obtain ⟨G3, s3, st3, r3⟩ := st2.res1 q
  cases r3
  refine ⟨b, rfl, ?_⟩
  have hp3 := hp2.mono s3
  cases b with
  | false =>
    cases hm3
    exact hp3 _ _ _ (Same.refl _) st3 (.bl _)
  | true =>
    rw [if_pos rfl]
    refine h3.step st3 hm3 hp3 fun c S4 w' G4 H4 hm4 s4 st4 rw' hp4 => ?_
    obtain ⟨z, ez, rfl⟩ := lift_eq hm4
    exact hr' G4 H4 u w' y c z Q st4.ex ((ru.mono s3).mono s4) rw' ez fun w H' q => hp4.res1 st4 q
theorem em_chain {op op' : CmpOp} {a b c : Expr} {g g' : PV → PV → Option PV} {ma mb mc : M PV} (hb : BinR X cl (compareOp op) g) (hb2 : BinR X cl (compareOp op') g') (h1 : EM X cl W a ma) (h2 : EM X cl W b mb) (h3 : EM X cl W c mc)
    (hm : lastMarks [op, op'] [b, c] = false := by with_unfolding_all rfl) : EM X cl W (.Compare a [op, op'] [b, c] pos) (mChain g g' ma mb mc) := by
  obtain ⟨ta, pa, da⟩ := h1
  obtain ⟨tb, pb, db⟩ := h2
  obtain ⟨tc, pc, dc⟩ := h3
  obtain ⟨r, ho, hs⟩ := hb
  obtain ⟨r', ho', hs'⟩ := hb2
  exact ⟨_, pe_chain ho ho' pa pb pc hm, does_chain hs hs' da db dc⟩
theorem tm_chain {op op' : CmpOp} {a b c : Expr} {g g' : PV → PV → Option PV} {ma mb mc : M PV} (hb : BinR X cl (compareOp op) g) (hb2 : BinR X cl (compareOp op') g') (h1 : EM X cl W a ma) (h2 : EM X cl W b mb) (h3 : EM X cl W c mc)
    (hm : lastMarks [op, op'] [b, c] = false := by with_unfolding_all rfl) : TM X cl W (.Compare a [op, op'] [b, c] pos) (mTest (mChain g g' ma mb mc)) := by
  obtain ⟨ta, pa, da⟩ := h1
  obtain ⟨tb, pb, db⟩ := h2
  obtain ⟨tc, pc, dc⟩ := h3
  obtain ⟨r, ho, hs⟩ := hb
  obtain ⟨r', ho', hs'⟩ := hb2
  exact ⟨_, pt_chain ho ho' pa pb pc hm, does_test (does_chain hs hs' da db dc)⟩

/-! ### argument lists, displays -/
def mArgs : List (M PV) → M (List PV)
  | [] => ret []
  | m :: ms => bnd m fun x => bnd (mArgs ms) fun xs => ret (x :: xs)
theorem am_nil : AM X cl W [] (mArgs []) := ⟨_, pa_nil, fun F G H σ S rr Q st hm hp => by
  cases hm
  exact hp _ _ _ (Same.refl _) st .nil⟩
theorem am_cons {e : Expr} {es : List Expr} {m : M PV} {ms : List (M PV)} (h : EM X cl W e m) (hr : AM X cl W es (mArgs ms)) (hs : starEach (e :: es) X.env = (false, eval e X.env) :: starEach es X.env := by rfl) : AM X cl W (e :: es) (mArgs (m :: ms)) := by
  obtain ⟨t, p, d⟩ := h
  obtain ⟨u, q, du⟩ := hr
  refine ⟨_, pa_cons p q hs, fun F G H σ S rr Q st hm hp => ?_⟩
  refine d.step (R2 := RL X.K cl) st hm hp fun y S1 v G1 H1 hm1 s1 st1 rv hp1 => ?_
  refine du.step (R2 := RL X.K cl) st1 hm1 hp1 fun ys S2 vs G2 H2 hm2 s2 st2 rvs hp2 => ?_
  cases hm2
  exact hp2 _ _ _ (Same.refl _) st2 (.cons (rv.mono s2) rvs)
def mTup (ms : List (M PV)) : M PV := bnd (mArgs ms) fun xs => ret (.tup xs)
theorem mArgs_len : ∀ {ms : List (M PV)} {S S' : Sto} {xs : List PV}, mArgs ms S = some (.ok xs S') → xs.length = ms.length
  | [], _, _, _, h => by cases h; rfl
  | m :: ms, S, S', xs, h => by
    rcases bnd_some h with ⟨x, S1, e1, e2⟩ | ⟨c, fs, S1, _, e2⟩
    · rcases bnd_some e2 with ⟨ys, S2, e3, e4⟩ | ⟨c, fs, S2, _, e4⟩
      · cases e4
        rw [List.length_cons, List.length_cons, mArgs_len e3]
      · cases e4
    · cases e2
theorem Does.step' {α β γ δ : Type} {K : PySem.W.Frag} {F : Fr} {G H : Hp} {σ : L2.St} {S : Sto} {R1 : Hp → β → α → Prop} {R2 : Hp → δ → γ → Prop} {t1 : L2.St → Hp → (β → Hp → Prop) → Prop} {m1 : M α} {k : α → M γ} {r : Rs γ} {Q1 : β → Hp → Prop} {Q2 : δ → Hp → Prop}
    (h1 : Does K cl W R1 t1 m1) (st : StOk K cl F G H σ S) (hm : bnd m1 k S = some r) (hp : Post K cl R2 F W G σ Q2 r)
    (hk : ∀ (y : α) (S1 : Sto) (v : β) (G1 H1 : Hp), m1 S = some (.ok y S1) → k y S1 = some r → Same G G1 → StOk K cl F G1 H1 σ S1 → R1 G1 v y → Post K cl R2 F W G1 σ Q2 r → Q1 v H1) : t1 σ H Q1 := by
  unfold bnd at hm
  cases e : m1 S with
  | none =>
    rw [e] at hm
    cases hm
  | some r1 =>
    rw [e] at hm
    cases r1 with
    | ok y S1 =>
      refine h1 F G H σ S _ Q1 st e ?_
      exact fun v G1 H1 s k1 x => hk y S1 v G1 H1 e hm s k1 x (hp.mono s)
    | ex c fs S1 =>
      have hm' : Rs.ex c fs S1 = r := Option.some.inj hm
      subst hm'
      exact h1 F G H σ S _ Q1 st e hp
theorem em_tup {es : List Expr} {ms : List (M PV)} {x1} (h : AM X cl W es (mArgs ms)) (hl : ms.length ≤ 1000 := by decide) : EM X cl W (.Tuple es x1 pos) (mTup ms) := by
  obtain ⟨t, p, d⟩ := h
  refine ⟨_, pe_tupF p, fun F G H σ S rr Q st hm hp => ?_⟩
  refine d.step' (R2 := RV X.K cl) st hm hp fun y S1 v G1 H1 e1 hm1 s1 st1 rv hp1 => ?_
  cases hm1
  have hz : v.length ≤ sizeLine := by
    rw [rv.length, mArgs_len e1]
    exact Nat.le_trans hl (by decide)
  exact ⟨hz, fun p o ho hn => hp1.res1 st1 (.inr ⟨p, _, hn, rfl, .tup (tupAt_new ho) hz (rv.mono (same_new (st1.free hn)))⟩)⟩
def mLst (ms : List (M PV)) : M PV := bnd (mArgs ms) fun xs => ret (.lst xs)
theorem em_lst {es : List Expr} {ms : List (M PV)} (h : AM X cl W es (mArgs ms)) (hl : ms.length ≤ 1000 := by decide) : EM X cl W (.List es pos) (mLst ms) := by
  obtain ⟨t, p, d⟩ := h
  refine ⟨_, pe_lst p, fun F G H σ S rr Q st hm hp => ?_⟩
  refine d.step' (R2 := RV X.K cl) st hm hp fun y S1 v G1 H1 e1 hm1 s1 st1 rv hp1 => ?_
  cases hm1
  have hz : v.length ≤ sizeLine := by
    rw [rv.length, mArgs_len e1]
    exact Nat.le_trans hl (by decide)
  exact ⟨hz, fun p hn => hp1.res1 st1 (.inr ⟨p, _, hn, rfl, .lst upd_same hz (rv.mono (same_new (st1.free hn)))⟩)⟩

/-! ### x[i], x[a:b], o.f -/
def pIdx (x i : PV) : Option PV := match x, i with
  | .tup xs, .int k => atI xs k
  | .lst xs, .int k => atI xs k
  | .frl ns, .int k => (atI ns k).map PV.int
  | .str z, .int k => (atI z.cps.toList k).map fun c => .str ⟨#[c]⟩
  | _, _ => none
theorem atI_rep {K : PySem.W.Frag} {H : Hp} {vs : List V} {xs : List PV} {k : Int} {x : PV} (r : RepL K cl H vs xs) (h : atI xs k = some x) : ∃ v, atI vs k = some v ∧ Rep K cl H v x := by
  unfold atI at h ⊢
  rw [r.length]
  cases e : ixN xs.length k with
  | none => rw [e] at h; cases h
  | some j =>
    rw [e] at h
    exact r.get h
theorem atI_map {α β : Type} {f : α → β} {xs : List α} {k : Int} : atI (xs.map f) k = (atI xs k).map f := by
  unfold atI
  rw [List.length_map]
  cases ixN xs.length k with
  | none => rfl
  | some j => exact List.getElem?_map
theorem bs_idx : BinS X.K cl (rIx X.K) pIdx := by
  intro G H v u x y z Q e rv ru hz k
  unfold pIdx at hz
  cases x <;> cases y <;> try (cases hz; done)
  · rename_i zs i
    cases rv with
    | str _ hl =>
      cases ru
      dsimp only at hz
      cases q : atI zs.cps.toList i with
      | none => rw [q] at hz; cases hz
      | some c =>
        rw [q] at hz
        cases hz
        exact .inr (.inr ⟨_, _, c, rfl, rfl, hl, q, k _ _ (.inl ⟨rfl, .str _ (by show 1 ≤ sizeLine; decide)⟩)⟩)
  · cases rv with
    | tup hs _ hr =>
      cases ru
      obtain ⟨w, ew, rw'⟩ := atI_rep hr hz
      exact .inr (.inl ⟨_, _, _, w, rfl, rfl, sqt_mono e hs, ew, k _ _ (.inl ⟨rfl, rw'⟩)⟩)
  · cases rv with
    | lst hs _ hr =>
      cases ru
      obtain ⟨w, ew, rw'⟩ := atI_rep hr hz
      exact .inl ⟨_, _, _, w, rfl, rfl, SqL.of (e _ _ hs), ew, k _ _ (.inl ⟨rfl, rw'⟩)⟩
  · rename_i ns i
    cases rv with
    | frl hs =>
      cases ru
      dsimp only at hz
      cases q : atI ns i with
      | none => rw [q] at hz; cases hz
      | some c =>
        rw [q] at hz
        cases hz
        exact .inl ⟨_, _, _, .int c, rfl, rfl, e.seq hs, by rw [atI_map, q]; rfl, k _ _ (.inl ⟨rfl, .int _⟩)⟩
theorem em_idx {a b : Expr} {ma mb : M PV} (ha : EM X cl W a ma) (hb : EM X cl W b mb) (hs : PlainIx b := by exact fun _ _ => rfl) : EM X cl W (.Subscript a b pos) (mBin pIdx ma mb) := by
  obtain ⟨ta, pa, da⟩ := ha
  obtain ⟨tb, pb, db⟩ := hb
  exact ⟨_, pe_ix ix_seq pa pb hs, does_bin bs_idx da db⟩
end
end Kp
set_option Elab.async false
set_option linter.all false
set_option maxRecDepth 100000
set_option maxHeartbeats 2000000
namespace Kp
open PySem PyProof.Rows L2

section
variable {X : Cx} {cl : Nat → Addr} {W : WX} {pos : Pos}
/-! ### x[a:b] -/
def cutL {α : Type} (xs : List α) (lo hi : Option Int) : List α := (xs.drop (HT.sIx xs.length 0 lo)).take (HT.sIx xs.length xs.length hi - HT.sIx xs.length 0 lo)
def pSl (x : PV) (lo hi : Option Int) : Option PV := match x with
  | .tup xs => some (.tup (cutL xs lo hi))
  | .lst xs => some (.lst (cutL xs lo hi))
  | .frl ns => if (cutL ns lo hi).length ≤ sizeLine then some (.lst ((cutL ns lo hi).map PV.int)) else none
  | .str z => some (.str (cutS z lo hi))
  | _ => none
theorem repL_cut {K : PySem.W.Frag} {H : Hp} {vs : List V} {xs : List PV} (r : RepL K cl H vs xs) (lo hi : Option Int) : RepL K cl H (cutV vs lo hi) (cutL xs lo hi) := by
  unfold cutV cutL
  rw [r.length]
  exact (r.drop _).take _
theorem cutL_map {α β : Type} {f : α → β} {xs : List α} {lo hi : Option Int} : cutL (xs.map f) lo hi = (cutL xs lo hi).map f := by
  unfold cutL
  rw [List.length_map, List.map_take, List.map_drop]
theorem cutV_ints {ns : List Int} {lo hi : Option Int} : cutV (ns.map V.int) lo hi = (cutL ns lo hi).map V.int := cutL_map (f := V.int)
theorem cutL_whole {α : Type} {xs : List α} {lo hi : Option Int} (h1 : HT.sIx xs.length 0 lo = 0) (h2 : HT.sIx xs.length xs.length hi = xs.length) : cutL xs lo hi = xs := by
  unfold cutL
  rw [h1, h2]
  simp
/-- an optional bound of a slice -/
def OM (X : Cx) (cl : Nat → Addr) (W : WX) (e : Option Expr) (m : M (Option Int)) : Prop :=
  ∃ t, PO X e t ∧ Does X.K cl W (fun _ v x => v = x) t m
def mNoB : M (Option Int) := ret none
def mBd (m : M PV) : M (Option Int) := bnd m fun x => match x with
  | .int i => ret (some i)
  | _ => fun _ => none
theorem om_none : OM X cl W none mNoB := ⟨_, po_none, fun F G H σ S rr Q st hm hp => by
  cases hm
  exact hp _ _ _ (Same.refl _) st rfl⟩
theorem om_some {e : Expr} {m : M PV} (h : EM X cl W e m) : OM X cl W (some e) (mBd m) := by
  obtain ⟨t, p, d⟩ := h
  refine ⟨_, po_some p, fun F G H σ S rr Q st hm hp => ?_⟩
  refine d.step (R2 := fun _ v x => v = x) st hm hp fun y S1 v G1 H1 hm1 s1 st1 rv hp1 => ?_
  cases y <;> try (cases hm1; done)
  cases hm1
  cases rv
  exact ⟨_, rfl, hp1 _ _ _ (Same.refl _) st1 rfl⟩
def mSl (m : M PV) (lo hi : M (Option Int)) : M PV := bnd m fun x => bnd lo fun a => bnd hi fun b => lift (pSl x a b)
theorem em_sl {e : Expr} {lo hi : Option Expr} {m : M PV} {ml mh : M (Option Int)} {p2 : Pos} (he : EM X cl W e m) (hl : OM X cl W lo ml) (hh : OM X cl W hi mh) : EM X cl W (.Subscript e (.Slice lo hi none p2) pos) (mSl m ml mh) := by
  obtain ⟨t, p, d⟩ := he
  obtain ⟨tl, pl, dl⟩ := hl
  obtain ⟨th, ph, dh⟩ := hh
  refine ⟨_, pe_slice (sl_list.or (sl_tupF.or sl_str)) p pl ph, fun F G H σ S rr Q st hm hp => ?_⟩
  refine d.step st hm hp fun x S1 v G1 H1 hm1 s1 st1 rv hp1 => ?_
  refine dl.step st1 hm1 hp1 fun a S2 a' G2 H2 hm2 s2 st2 ra hp2 => ?_
  subst ra
  refine dh.step st2 hm2 hp2 fun b S3 b' G3 H3 hm3 s3 st3 rb hp3 => ?_
  subst rb
  obtain ⟨z, ez, rfl⟩ := lift_eq hm3
  have r3 := (rv.mono s2).mono s3
  unfold pSl at ez
  cases x <;> try (cases ez; done)
  · cases ez
    cases r3 with
    | str _ hl => exact .inr (.inr ⟨_, rfl, hl, hp3.res1 st3 (.inl ⟨rfl, .str _ (Nat.le_trans (cutS_length _ _ _) hl)⟩)⟩)
  · cases ez
    cases r3 with
    | tup hs hz hr =>
      refine .inr (.inl ⟨_, _, rfl, sqt_mono st3.ex hs, fun z => hp3.res1 st3 (.inl ⟨rfl, ?_⟩), fun _ p o ho hn => hp3.res1 st3 (.inr ⟨p, _, hn, rfl, .tup (tupAt_new ho) (Nat.le_trans (cutV_length _ _ _) hz) ((repL_cut hr _ _).mono (same_new (st3.free hn)))⟩)⟩)
      have hl := hr.length
      rw [hl] at z
      rw [cutL_whole z.1 z.2]
      exact .tup hs hz hr
  · cases ez
    cases r3 with
    | lst hs hz hr => exact .inl ⟨_, _, rfl, SqL.of (st3.ex _ _ hs), fun p hn => hp3.res1 st3 (.inr ⟨p, _, hn, rfl, .lst upd_same (Nat.le_trans (cutV_length _ _ _) hz) ((repL_cut hr _ _).mono (same_new (st3.free hn)))⟩)⟩
  · dsimp only at ez
    split at ez <;> try (cases ez; done)
    rename_i c
    cases ez
    cases r3 with
    | frl hs => exact .inl ⟨_, _, rfl, st3.ex.seq hs, fun p hn => hp3.res1 st3 (.inr ⟨p, _, hn, rfl, .lst upd_same (by rw [cutV_ints, List.length_map]; exact c) (by rw [cutV_ints]; exact repL_ints _)⟩)⟩

/-! ### o.f -/
def pFld (c : Nat) (f : Str) (x : PV) : Option PV := match x with
  | .obj d fs => if d = c then fs.lookup f else none
  | _ => none
theorem em_fld {e : Expr} {c : Nat} {f : Str} {m : M PV} (he : EM X cl W e m) (hc : Cls X.K (cl c)) (hn : NoAttr X.K (cl c) f) (hb : attributeBase e f X.env (eval e X.env) = eval e X.env := by rfl) : EM X cl W (.Attribute e f pos) (mUn (pFld c f) m) := by
  obtain ⟨t, p, d⟩ := he
  refine ⟨_, pe_fld p hb, fun F G H σ S rr Q st hm hp => ?_⟩
  refine d.step st hm hp fun x S1 v G1 H1 hm1 s1 st1 rv hp1 => ?_
  obtain ⟨z, ez, rfl⟩ := lift_eq hm1
  unfold pFld at ez
  cases x <;> try (cases ez; done)
  dsimp only at ez
  split at ez <;> try (cases ez; done)
  rename_i q
  subst q
  cases rv with
  | obj hs hr =>
    obtain ⟨w, ew, rw'⟩ := hr.lookup ez
    exact ⟨_, _, _, _, w, rfl, st1.ex _ _ hs, hc, hn, ew, hp1 _ _ _ (Same.refl _) st1 rw'⟩

/-! ### calls -/
def roM : Option RO → M PV
  | some (.ret y) => ret y
  | some (.exc c fs) => fun S => some (.ex c fs S)
  | none => fun _ => none
def mCall (f : List PV → Option RO) (ms : List (M PV)) : M PV := bnd (mArgs ms) fun xs => roM (f xs)
/-- what a promise is worth to a caller -/
theorem spP_use {F : Fr} {G H : Hp} {σ : L2.St} {S : Sto} {n : Nat} {f : List PV → Option RO} {vs : List V} {xs : List PV} {Q : VK} {r : Rs PV} (st : StOk X.K cl F G H σ S) (rl : RepL X.K cl G vs xs) (hl : vs.length = n) (hm : roM (f xs) S = some r) (hp : Post X.K cl (RV X.K cl) F W G σ Q r) :
    spP X.K cl n f vs H Q (WE W σ) := by
  refine ⟨hl, G, xs, ?_⟩
  cases e : f xs with
  | none => rw [e] at hm; cases hm
  | some ro =>
    rw [e] at hm
    refine ⟨ro, st.ex, rl, rfl, ?_⟩
    cases ro with
    | ret y =>
      cases hm
      exact fun v G' H' g r' => hp v G' H' g.g (st.grown g) r'
    | exc c fs =>
      cases hm
      exact fun d gs G' H' g a b => hp d gs G' H' g.g (st.grown g) ⟨a.1, st.free0 a.2, st.rfree a.2⟩ b
theorem em_call {x : Str} {k : Nat} {f : Addr} {fd : FuncData} {ps : List Str} {n : Nat} {g : List PV → Option RO} {p : Pos} {e : Expr} {es : List Expr} {ms : List (M PV)} (tk : L2N.Takes X W) (F : FnOk X.prog X.w X.K X.mg X.base (L2N.CX X.prog X.w) k f fd ps (spP X.K cl n g)) (hr : Room k X.A) (hm : X.mg x = some (.ref f)) (hk : PySem.W.keepIn X.K (.ref f) = true)
    (hb : Binds X.K fd ps []) (ha : AM X cl W (e :: es) (mArgs ms)) (hl : ms.length = n := by rfl) (hg : Gl X x := by rfl) (hdb : (x == ("__debug__" : Str)) = false := by decide) (he : starEach (e :: es) X.env = (false, eval e X.env) :: starEach es X.env := by rfl) (hpl : (backTo pos (starEach es X.env)).any (·.1) = false := by rfl) :
    EM X cl W (.Call (.Name x p) (e :: es) [] pos) (mCall g ms) := by
  obtain ⟨t, pa, d⟩ := ha
  refine ⟨_, pe_callS (E := WE W) F hr hg hm hk hb (fun σ => L2N.passAt tk σ) pa hdb he hpl, fun F G H σ S rr Q st hm hp => ?_⟩
  refine d.step' (R2 := RV X.K cl) st hm hp fun y S1 v G1 H1 e1 hm1 s1 st1 rv hp1 => ?_
  exact spP_use st1 rv (by rw [rv.length, mArgs_len e1]; exact hl) hm1 hp1
/-- the object in slot i is handed in to be changed -/
def mIn (i : Nat) (h : PV → Option (PV × RO)) : M PV := fun S => match S[i]? with
  | some (some (.o x)) => match h x with
    | some (x', .ret y) => some (.ok y (S.set i (some (.o x'))))
    | some (x', .exc c fs) => some (.ex c fs (S.set i (some (.o x'))))
    | none => none
  | some (some (.i x)) => match h x with
    | some (x', .ret y) => some (.ok y (S.set i (some (.i x'))))
    | some (x', .exc c fs) => some (.ex c fs (S.set i (some (.i x'))))
    | none => none
  | _ => none
theorem spI_use {F : Fr} {G H : Hp} {σ : L2.St} {S : Sto} {n i : Nat} {f : PV → List PV → Option (PV × RO)} {v0 : V} {vs : List V} {xs : List PV} {Q : VK} {r : Rs PV} (st : StOk X.K cl F G H σ S) (rl : RepL X.K cl G vs xs) (hl : vs.length + 1 = n) (hv : σ[i]? = some (some v0))
    (hm : mIn i (fun x => f x xs) S = some r) (hp : Post X.K cl (RV X.K cl) F W G σ Q r) : spI X.K cl n f (v0 :: vs) H Q (WE W σ) := by
  refine ⟨by rw [List.length_cons]; exact hl, ?_⟩
  unfold mIn at hm
  split at hm
  · rename_i x e
    obtain ⟨a, ea, ga, h0, q⟩ := st.own i x e
    rw [ea] at hv
    cases hv
    simp only [] at hm
    cases ef : f x xs with
    | none => rw [ef] at hm; cases hm
    | some z =>
      obtain ⟨x', ro⟩ := z
      rw [ef] at hm
      refine ⟨a, vs, G, x, x', xs, ro, rfl, st.ex, ga, q, rl, ef, ?_⟩
      cases ro with
      | ret y =>
        cases hm
        exact fun v G' H' g q' r' => hp v G' H' g.g (st.grownO e ea g q') r'
      | exc c fs =>
        cases hm
        exact fun d gs G' H' g q' a b => hp d gs G' H' g.g (st.grownO e ea g q') ⟨a.1, st.free0 a.2, st.rfree a.2⟩ b
  · rename_i x e
    obtain ⟨a, ea, ga, h0, q⟩ := st.inn i x e
    rw [ea] at hv
    cases hv
    simp only [] at hm
    cases ef : f x xs with
    | none => rw [ef] at hm; cases hm
    | some z =>
      obtain ⟨x', ro⟩ := z
      rw [ef] at hm
      refine ⟨a, vs, G, x, x', xs, ro, rfl, st.ex, ga, q, rl, ef, ?_⟩
      cases ro with
      | ret y =>
        cases hm
        exact fun v G' H' g q' r' => hp v G' H' g.g (st.grownII e ea g q') r'
      | exc c fs =>
        cases hm
        exact fun d gs G' H' g q' a b => hp d gs G' H' g.g (st.grownII e ea g q') ⟨a.1, st.free0 a.2, st.rfree a.2⟩ b
  · cases hm
/-- the slot's object is there (own or handed in) -/
def isO (i : Nat) (S : Sto) : Bool := match S[i]? with
  | some (some (.o _)) => true
  | some (some (.i _)) => true
  | _ => false
theorem isO_ref {F : Fr} {G H : Hp} {σ : L2.St} {S : Sto} {i : Nat} (st : StOk X.K cl F G H σ S) (h : isO i S = true) : ∃ v, σ[i]? = some (some v) := by
  unfold isO at h
  split at h
  · rename_i x e
    obtain ⟨a, ea, _⟩ := st.own i x e
    exact ⟨_, ea⟩
  · rename_i x e
    obtain ⟨a, ea, _⟩ := st.inn i x e
    exact ⟨_, ea⟩
  · cases h
def mCallI (i : Nat) (f : PV → List PV → Option (PV × RO)) (ms : List (M PV)) : M PV := fun S => if isO i S then bnd (mArgs ms) (fun xs => mIn i (fun x => f x xs)) S else none
theorem em_callI {x : Str} {k i : Nat} {f : Addr} {fd : FuncData} {ps : List Str} {n : Nat} {g : PV → List PV → Option (PV × RO)} {p : Pos} {e : Expr} {es : List Expr} {ms : List (M PV)} (tk : L2N.Takes X W) (F : FnOk X.prog X.w X.K X.mg X.base (L2N.CX X.prog X.w) k f fd ps (spI X.K cl n g)) (hr : Room k X.A) (hm : X.mg x = some (.ref f)) (hk : PySem.W.keepIn X.K (.ref f) = true)
    (hb : Binds X.K fd ps []) (he0 : PE X e (tVar i)) (ha : AM X cl W es (mArgs ms)) (hl : ms.length + 1 = n := by rfl) (hg : Gl X x := by rfl) (hdb : (x == ("__debug__" : Str)) = false := by decide) (he : starEach (e :: es) X.env = (false, eval e X.env) :: starEach es X.env := by rfl) (hpl : (backTo pos (starEach es X.env)).any (·.1) = false := by rfl) :
    EM X cl W (.Call (.Name x p) (e :: es) [] pos) (mCallI i g ms) := by
  obtain ⟨t, pa, d⟩ := ha
  refine ⟨_, pe_callS (E := WE W) F hr hg hm hk hb (fun σ => L2N.passAt tk σ) (pa_cons he0 pa he) hdb he hpl, fun F G H σ S rr Q st hm hp => ?_⟩
  unfold mCallI at hm
  split at hm <;> try (cases hm; done)
  rename_i ho
  obtain ⟨v0, ev⟩ := isO_ref st ho
  refine ⟨v0, ev, ?_⟩
  refine d.step' (R2 := RV X.K cl) st hm hp fun y S1 v G1 H1 e1 hm1 s1 st1 rv hp1 => ?_
  exact spI_use st1 rv (by rw [rv.length, mArgs_len e1]; exact hl) ev hm1 hp1

/-! ### methods -/
/-- o.m(e, ..), what it may raise told at the slots -/
def tMethS (C : Addr) (m : Str) (sp : Sp) (E : L2.St → XK) (ta : TE) (t : TA) : TE := fun σ H Q => ta σ H fun x H1 => ∃ a dx fs, x = .ref a ∧ H1 a = some (.ins C dx fs) ∧ fs.lookup m = none ∧
  t σ H1 fun vs H2 => sp (x :: vs) H2 Q (E σ)
theorem pe_methS' {k : Nat} {f C : Addr} {fd : FuncData} {ps : List Str} {sp : Sp} {E : L2.St → XK} {CX : CXT} {m : Str} {apos : Pos} {e o : Expr} {es : List Expr} {ta : TE} {t : TA} {pl : Sem Bool} (he : PE X o ta) (c : Cls X.K C) (hm : Meth X.K C m f) (F : FnOk X.prog X.w X.K X.mg X.base CX k f fd ps sp) (hr : Room k X.A) (hb : Binds X.K fd ps []) (hx : ∀ σ, PassesAt CX X σ (E σ)) (ha : PA X (e :: es) t)
    (hst : starEach (e :: es) X.env = (false, eval e X.env) :: starEach es X.env := by rfl) (hpl : (backTo pos (starEach es X.env)).any (·.1) = false := by rfl)
    (ht : eval (.Call (.Attribute o m apos) (e :: es) [] pos) X.env = (do
      let ov ← eval o X.env
      standAt apos.atName
      let (f, first) ← holding [ov] (getMethod ov m pl)
      callWith pos f first (backTo pos (starEach (e :: es) X.env)) (backToKw pos (keywordEach [] X.env))) := by rfl) :
    PE X (.Call (.Attribute o m apos) (e :: es) [] pos) (tMethS C m sp E ta t) := by
  refine ⟨fun pins s σ H Q I h => ?_⟩
  refine PySem.W.methodCall_KW (pl := pl) (thn (he.run pins s σ H _ I h) fun u s1 ⟨x, H1, I1, rx, a, dx, fs, ex, ea, l, q⟩ => ?_) ht
  subst ex
  obtain rfl : u = Value.ref a := rx
  refine getmeth_ok I1 ea c hm l ?_
  refine PySem.W.callWith_K (first := [.ref a]) (h₀ := X.base) I.ok.mod.kin hm.kp (thn (ha.run pos pins s1 σ H1 _ I1 q) fun us s2 ⟨vs, H2, I2, r, q2⟩ => ⟨I2.kIn, ?_⟩) hst hpl
  exact run_fnS (us := .ref a :: us) (vs := .ref a :: vs) F hr hb (hx σ) I2 (.cons rfl r) q2
theorem pe_methS0' {k : Nat} {f C : Addr} {fd : FuncData} {ps : List Str} {sp : Sp} {E : L2.St → XK} {CX : CXT} {m : Str} {apos : Pos} {o : Expr} {ta : TE} {pl : Sem Bool} (he : PE X o ta) (c : Cls X.K C) (hm : Meth X.K C m f) (F : FnOk X.prog X.w X.K X.mg X.base CX k f fd ps sp) (hr : Room k X.A) (hb : Binds X.K fd ps []) (hx : ∀ σ, PassesAt CX X σ (E σ))
    (ht : eval (.Call (.Attribute o m apos) [] [] pos) X.env = (do
      let ov ← eval o X.env
      standAt apos.atName
      let (f, first) ← holding [ov] (getMethod ov m pl)
      callWith pos f first (backTo pos (starEach [] X.env)) (backToKw pos (keywordEach [] X.env))) := by rfl) :
    PE X (.Call (.Attribute o m apos) [] [] pos) (tMethS C m sp E ta tNil) := by
  refine ⟨fun pins s σ H Q I h => ?_⟩
  refine PySem.W.methodCall_KW (pl := pl) (thn (he.run pins s σ H _ I h) fun u s1 ⟨x, H1, I1, rx, a, dx, fs, ex, ea, l, q⟩ => ?_) ht
  subst ex
  obtain rfl : u = Value.ref a := rx
  refine getmeth_ok I1 ea c hm l ?_
  exact PySem.W.callWith_K0 (first := [.ref a]) I1.kIn hm.kp (run_fnS (us := [.ref a]) (vs := [.ref a]) F hr hb (hx σ) I1 (.cons rfl .nil) q)
/-- a method of a plain object -/
def mMeth (c : Nat) (m : Str) (f : List PV → Option RO) (mo : M PV) (ms : List (M PV)) : M PV := bnd mo fun x => match x with
  | .obj d fs => if d = c ∧ fs.lookup m = none then bnd (mArgs ms) fun xs => roM (f (.obj d fs :: xs)) else fun _ => none
  | _ => fun _ => none
theorem does_meth {k : Nat} {c : Nat} {m : Str} {n : Nat} {g : List PV → Option RO} {ta : TE} {t : TA} {mo : M PV} {ms : List (M PV)} (do_ : Does X.K cl W (RV X.K cl) ta mo) (da : Does X.K cl W (RL X.K cl) t (mArgs ms)) (hl : ms.length + 1 = n) :
    Does X.K cl W (RV X.K cl) (tMethS (cl c) m (spP X.K cl n g) (WE W) ta t) (mMeth c m g mo ms) := by
  intro F G H σ S rr Q st hm hp
  refine do_.step (R2 := RV X.K cl) st hm hp fun y S1 v G1 H1 hm1 s1 st1 rv hp1 => ?_
  cases y <;> try (cases hm1; done)
  rename_i d fs
  dsimp only at hm1
  split at hm1 <;> try (cases hm1; done)
  rename_i q
  obtain ⟨q1, q2⟩ := q
  subst q1
  obtain ⟨a, dx, gs, ea, rf⟩ : ∃ a dx gs, v = .ref a ∧ ∃ e : G1 a = some (.ins (cl d) dx gs), RepF X.K cl G1 gs fs := by
    cases rv with
    | obj hs hr => exact ⟨_, _, _, rfl, hs, hr⟩
  subst ea
  obtain ⟨eg, rf⟩ := rf
  refine ⟨a, dx, gs, rfl, st1.ex _ _ eg, rf.lookup_none q2, ?_⟩
  refine da.step' (R2 := RV X.K cl) st1 hm1 hp1 fun ys S2 vs G2 H2 e2 hm2 s2 st2 rvs hp2 => ?_
  exact spP_use st2 (.cons (rv.mono s2) rvs) (by rw [List.length_cons, rvs.length, mArgs_len e2]; exact hl) hm2 hp2
theorem em_meth {k : Nat} {c : Nat} {f : Addr} {fd : FuncData} {ps : List Str} {n : Nat} {g : List PV → Option RO} {m : Str} {apos : Pos} {e o : Expr} {es : List Expr} {mo : M PV} {ms : List (M PV)} {pl : Sem Bool} (tk : L2N.Takes X W) (c' : Cls X.K (cl c)) (hm : Meth X.K (cl c) m f) (F : FnOk X.prog X.w X.K X.mg X.base (L2N.CX X.prog X.w) k f fd ps (spP X.K cl n g)) (hr : Room k X.A) (hb : Binds X.K fd ps [])
    (ho : EM X cl W o mo) (ha : AM X cl W (e :: es) (mArgs ms)) (hl : ms.length + 1 = n := by rfl)
    (hst : starEach (e :: es) X.env = (false, eval e X.env) :: starEach es X.env := by rfl) (hpl : (backTo pos (starEach es X.env)).any (·.1) = false := by rfl)
    (ht : eval (.Call (.Attribute o m apos) (e :: es) [] pos) X.env = (do
      let ov ← eval o X.env
      standAt apos.atName
      let (f, first) ← holding [ov] (getMethod ov m pl)
      callWith pos f first (backTo pos (starEach (e :: es) X.env)) (backToKw pos (keywordEach [] X.env))) := by rfl) :
    EM X cl W (.Call (.Attribute o m apos) (e :: es) [] pos) (mMeth c m g mo ms) := by
  obtain ⟨ta, po, do_⟩ := ho
  obtain ⟨t, pa, da⟩ := ha
  exact ⟨_, pe_methS' (E := WE W) po c' hm F hr hb (fun σ => L2N.passAt tk σ) pa hst hpl ht, does_meth (k := k) do_ da hl⟩
theorem em_meth0 {k : Nat} {c : Nat} {f : Addr} {fd : FuncData} {ps : List Str} {g : List PV → Option RO} {m : Str} {apos : Pos} {o : Expr} {mo : M PV} {pl : Sem Bool} (tk : L2N.Takes X W) (c' : Cls X.K (cl c)) (hm : Meth X.K (cl c) m f) (F : FnOk X.prog X.w X.K X.mg X.base (L2N.CX X.prog X.w) k f fd ps (spP X.K cl 1 g)) (hr : Room k X.A) (hb : Binds X.K fd ps [])
    (ho : EM X cl W o mo)
    (ht : eval (.Call (.Attribute o m apos) [] [] pos) X.env = (do
      let ov ← eval o X.env
      standAt apos.atName
      let (f, first) ← holding [ov] (getMethod ov m pl)
      callWith pos f first (backTo pos (starEach [] X.env)) (backToKw pos (keywordEach [] X.env))) := by rfl) :
    EM X cl W (.Call (.Attribute o m apos) [] [] pos) (mMeth c m g mo []) := by
  obtain ⟨ta, po, do_⟩ := ho
  obtain ⟨t, pa, da⟩ := am_nil (X := X) (cl := cl) (W := W)
  refine ⟨_, pe_methS0' (E := WE W) po c' hm F hr hb (fun σ => L2N.passAt tk σ) ht, ?_⟩
  exact does_meth (k := k) (t := tNil) do_ (fun F G H σ S rr Q st hm hp => by
    cases hm
    exact hp _ _ _ (Same.refl _) st .nil) rfl

/-! ### C(..) -/
def tMakeS (C : Addr) (sp : Sp) (E : L2.St → XK) (t : TA) : TE := fun σ H Q => t σ H fun vs H1 => ∀ x dx, H1 x = none → H1 dx = none → dx ≠ x →
  sp (.ref x :: vs) (upd (upd H1 dx (.own x)) x (.ins C dx [])) (fun v H2 => v = .non ∧ Q (.ref x) H2) (E σ)
theorem run_makeS {k : Nat} {f C : Addr} {fd : FuncData} {ps : List Str} {sp : Sp} {E : L2.St → XK} {CX : CXT} {pins : List (Addr × Obj)} {σ : L2.St} {H : Hp} {s : Shared} {Q : VK} {us : List Value} {vs : List V} (M : Mk X.K C f) (F : FnOk X.prog X.w X.K X.mg X.base CX k f fd ps sp) (hr : Room (k + 1) X.A) (hb : Binds X.K fd ps [])
    (hx : PassesAt CX X σ (E σ)) (I : Inv X pins σ H s) (r : Vals vs us)
    (h : ∀ x dx, H x = none → H dx = none → dx ≠ x → sp (.ref x :: vs) (upd (upd H dx (.own x)) x (.ins C dx [])) (fun v H2 => v = .non ∧ Q (.ref x) H2) (E σ)) :
    wpAny (model X.prog X.w) X.A (call (.ref C) us) (EP X pins σ Q) X.xe s := by
  have hq := h (s.heap.objs.size + 1) s.heap.objs.size (I.hok.fresh (Nat.le_succ _)) (I.hok.fresh (Nat.le_refl _)) (Nat.ne_of_lt (Nat.lt_succ_self _))
  have I2 := Inv.made (C := C) I
  have r2 : Vals (V.ref (s.heap.objs.size + 1) :: vs) (Value.ref (s.heap.objs.size + 1) :: us) := .cons rfl r
  have hl : (Value.ref (s.heap.objs.size + 1) :: us).length = ps.length := by
    have e := r2.length
    rw [F.len _ _ _ _ hq] at e
    exact e.symm
  have hb2 := hb _ (Value.ref (s.heap.objs.size + 1) :: us) I2.kIn (by rw [List.append_nil]; exact hl)
  rw [List.append_nil] at hb2
  refine wpAny_call (make_map (f := f) I.kIn M.makes M.init (beq_iff_eq.mp M.fn) (codeAny_mono (F.run _ X.stack _ _ ⟨Value.ref (s.heap.objs.size + 1) :: us, []⟩ (Value.ref (s.heap.objs.size + 1) :: us) _ _ (E σ) (hr.make C us [])
    (I2.env0.make C us []) hb2 r2 hq) fun r s' hq' => ?_))
  cases r with
  | error e => exact hx pins _ _ e s' I2 hq'
  | ok fl =>
    cases fl with
    | ret u =>
      obtain ⟨v, H', I3, rv, ev, q3⟩ := I2.after hq'
      subst ev
      exact ⟨rv, ⟨V.ref (s.heap.objs.size + 1), H', I3, rfl, q3⟩⟩
    | next => exact False.elim hq'
    | brk => exact False.elim hq'
    | cont => exact False.elim hq'
theorem pe_makeS {x : Str} {k : Nat} {f C : Addr} {fd : FuncData} {ps : List Str} {sp : Sp} {E : L2.St → XK} {CX : CXT} {p : Pos} {e : Expr} {es : List Expr} {t : TA} (M : Mk X.K C f) (F : FnOk X.prog X.w X.K X.mg X.base CX k f fd ps sp) (hr : Room (k + 1) X.A) (hg : Gl X x) (hm : X.mg x = some (.ref C)) (hb : Binds X.K fd ps []) (hx : ∀ σ, PassesAt CX X σ (E σ))
    (ha : PA X (e :: es) t) (hdb : (x == ("__debug__" : Str)) = false := by decide) (he : starEach (e :: es) X.env = (false, eval e X.env) :: starEach es X.env := by rfl) (hpl : (backTo pos (starEach es X.env)).any (·.1) = false := by rfl) :
    PE X (.Call (.Name x p) (e :: es) [] pos) (tMakeS C sp E t) := by
  refine ⟨fun pins s σ H Q I h => ?_⟩
  refine wpAny_Call_Name_kw (ld_glob I hg hm ?_ hdb)
  refine PySem.W.callWith_K (h₀ := X.base) I.ok.mod.kin M.kp (thn (ha.run pos pins s σ H _ I h) fun us s1 ⟨vs, H1, I1, r, q⟩ => ⟨I1.kIn, ?_⟩) he hpl
  exact run_makeS M F hr hb (hx σ) I1 r q
def mkM (h : PV → Option (PV × RO)) (c : Nat) : M PV := fun S => match h (.obj c []) with
  | some (x', .ret .non) => some (.ok x' S)
  | some (_, .exc c' fs) => some (.ex c' fs S)
  | _ => none
def mMake (c : Nat) (f : PV → List PV → Option (PV × RO)) (ms : List (M PV)) : M PV := bnd (mArgs ms) fun xs => mkM (fun x => f x xs) c
theorem grownI_new {a : Addr} {G H G' H' H1 : Hp} (g : GrownI a G H1 G' H') (ha : H a = none) (hs : Same H H1) : Same H H' := fun b o e => g.h b o (fun z => by rw [z, ha] at e; cases e) (hs b o e)
theorem does_make {c n : Nat} {g : PV → List PV → Option (PV × RO)} {t : TA} {ms : List (M PV)} (da : Does X.K cl W (RL X.K cl) t (mArgs ms)) (hl : ms.length + 1 = n) : Does X.K cl W (RV X.K cl) (tMakeS (cl c) (spI X.K cl n g) (WE W) t) (mMake c g ms) := by
  intro F G H σ S rr Q st hm hp
  refine da.step' (R2 := RV X.K cl) st hm hp fun ys S2 vs G2 H2 e2 hm2 s2 st2 rvs hp2 => ?_
  intro x dx hx hdx ne
  refine ⟨by rw [List.length_cons, rvs.length, mArgs_len e2]; exact hl, ?_⟩
  unfold mkM at hm2
  have st3 : StOk X.K cl F G2 (upd (upd H2 dx (.own x)) x (.ins (cl c) dx [])) σ S2 := (st2.allocO hdx).allocO (by rw [upd_ne (Ne.symm ne)]; exact hx)
  have hs : Same H2 (upd (upd H2 dx (.own x)) x (.ins (cl c) dx [])) := (same_new hdx).trans (same_new (by rw [upd_ne (Ne.symm ne)]; exact hx))
  have gx : G2 x = none := st2.free hx
  simp only [] at hm2
  cases ef : g (.obj c []) ys with
  | none => rw [ef] at hm2; cases hm2
  | some z =>
    obtain ⟨x', ro⟩ := z
    rw [ef] at hm2
    refine ⟨x, vs, G2, .obj c [], x', ys, ro, rfl, st3.ex, gx, ⟨dx, [], upd_same, .nil⟩, rvs, ef, ?_⟩
    -- behind the call: all that stood stands
    have gro : ∀ {G' H' : Hp}, GrownI x G2 (upd (upd H2 dx (.own x)) x (.ins (cl c) dx [])) G' H' → Grown G2 H2 G' H' := fun {G' H'} gg => by
      refine ⟨gg.g, gg.gh, grownI_new gg hx hs, fun a o e => ?_⟩
      rcases gg.new a o e with y | y
      · exact .inl y
      · by_cases z1 : a = x
        · rw [z1]; exact .inr hx
        · rw [upd_ne z1] at y
          by_cases z2 : a = dx
          · rw [z2]; exact .inr hdx
          · rw [upd_ne z2] at y
            exact .inr y
    cases ro with
    | ret y =>
      cases y <;> try (cases hm2; done)
      cases hm2
      intro v G' H' gg q' r'
      cases r'
      refine ⟨rfl, ?_⟩
      have gx' : G' x = none := by
        cases z : G' x with
        | none => rfl
        | some u =>
          rcases gg.new x u z with y | y
          · rw [gx] at y; cases y
          · rw [upd_same] at y; cases y
      obtain ⟨o, ho, r⟩ := own_freeze gx' q'
      have gr := gro gg
      have stf := st2.grown (G' := upd G' x o) (H' := H') ⟨gr.g.trans (same_new gx'), fun b u e => by
        by_cases z : b = x
        · subst z; rw [upd_same] at e; rw [← e]; exact ho
        · rw [upd_ne z] at e; exact gr.gh b u e, gr.h, fun b u e => by
        by_cases z : b = x
        · rw [z]; exact .inr hx
        · rw [upd_ne z] at e; exact gr.new b u e⟩
      exact hp2 _ _ _ (gr.g.trans (same_new gx')) stf r
    | exc c' fs =>
      cases hm2
      exact fun d gs G' H' gg q' a b => hp2 d gs G' H' gg.g (st2.grown (gro gg)) ⟨a.1, st2.free0 (hs.free a.2), st2.rfree (hs.free a.2)⟩ b
theorem em_make {x : Str} {k c : Nat} {f : Addr} {fd : FuncData} {ps : List Str} {n : Nat} {g : PV → List PV → Option (PV × RO)} {p : Pos} {e : Expr} {es : List Expr} {ms : List (M PV)} (tk : L2N.Takes X W) (M : Mk X.K (cl c) f) (F : FnOk X.prog X.w X.K X.mg X.base (L2N.CX X.prog X.w) k f fd ps (spI X.K cl n g)) (hr : Room (k + 1) X.A) (hm : X.mg x = some (.ref (cl c)))
    (hb : Binds X.K fd ps []) (ha : AM X cl W (e :: es) (mArgs ms)) (hl : ms.length + 1 = n := by rfl) (hg : Gl X x := by rfl) (hdb : (x == ("__debug__" : Str)) = false := by decide) (he : starEach (e :: es) X.env = (false, eval e X.env) :: starEach es X.env := by rfl) (hpl : (backTo pos (starEach es X.env)).any (·.1) = false := by rfl) :
    EM X cl W (.Call (.Name x p) (e :: es) [] pos) (mMake c g ms) := by
  obtain ⟨t, pa, da⟩ := ha
  exact ⟨_, pe_makeS (E := WE W) M F hr hg hm hb (fun σ => L2N.passAt tk σ) pa hdb he hpl, does_make da hl⟩
end
end Kp
set_option Elab.async false
set_option linter.all false
set_option maxRecDepth 100000
set_option maxHeartbeats 2000000
namespace Kp
open PySem PyProof.Rows L2

/-! ### list comprehensions -/
def wipeS (S : Sto) : List Nat → Sto
  | [] => S
  | v :: vs => (wipeS S vs).set v none
theorem wipeS_length (S : Sto) : ∀ vs : List Nat, (wipeS S vs).length = S.length
  | [] => rfl
  | v :: vs => by unfold wipeS; rw [List.length_set, wipeS_length S vs]
theorem wipeS_out {S : Sto} {i : Nat} : ∀ {vs : List Nat}, i ∉ vs → (wipeS S vs)[i]? = S[i]?
  | [], _ => rfl
  | v :: vs, h => by
    unfold wipeS
    rw [List.getElem?_set_ne (fun z => h (by rw [z]; exact List.mem_cons_self))]
    exact wipeS_out fun z => h (List.mem_cons_of_mem _ z)
theorem wipeS_in {S : Sto} {i : Nat} {y : SV} : ∀ {vs : List Nat}, i ∈ vs → (wipeS S vs)[i]? ≠ some (some y)
  | [], h => by cases h
  | v :: vs, h => by
    unfold wipeS
    intro q
    rcases set_get q with ⟨_, q', _⟩ | ⟨n, q'⟩
    · cases q'
    · rcases List.mem_cons.mp h with z | z
      · exact n z
      · exact wipeS_in z q'
/-- the slots vs of S, the others of S2 -/
def backS (S : Sto) (S2 : Sto) : List Nat → Sto
  | [] => S2
  | v :: vs => (backS S S2 vs).set v (S[v]?.join)
theorem backS_length (S S2 : Sto) : ∀ vs : List Nat, (backS S S2 vs).length = S2.length
  | [] => rfl
  | v :: vs => by unfold backS; rw [List.length_set, backS_length S S2 vs]
theorem backS_out {S S2 : Sto} {i : Nat} : ∀ {vs : List Nat}, i ∉ vs → (backS S S2 vs)[i]? = S2[i]?
  | [], _ => rfl
  | v :: vs, h => by
    unfold backS
    rw [List.getElem?_set_ne (fun z => h (by rw [z]; exact List.mem_cons_self))]
    exact backS_out fun z => h (List.mem_cons_of_mem _ z)
theorem backS_in {S S2 : Sto} {i : Nat} {y : SV} : ∀ {vs : List Nat}, i ∈ vs → (backS S S2 vs)[i]? = some (some y) → S[i]? = some (some y)
  | [], h, _ => by cases h
  | v :: vs, h, q => by
    unfold backS at q
    rcases set_get q with ⟨z, q', _⟩ | ⟨n, q'⟩
    · subst z
      cases e : S[i]? with
      | none => rw [e] at q'; cases q'
      | some w => rw [e] at q'; rw [q']; rfl
    · rcases List.mem_cons.mp h with z | z
      · exact absurd z n
      · exact backS_in z q'
section
variable {K : PySem.W.Frag} {cl : Nat → Addr} {F : Fr} {G G' H H' : Hp} {σ σ2 : L2.St} {S S2 : Sto}
/-- the slots vs are forgotten -/
theorem StOk.wiped {vs : List Nat} (k : StOk K cl F G H σ2 S) (hw : wipe σ2 vs = wipe σ vs) (hio : ∀ i ∈ vs, F.io i = none) : StOk K cl F G H (wipe σ vs) (wipeS S vs) := by
  have out : ∀ {i : Nat} {y : SV}, (wipeS S vs)[i]? = some (some y) → i ∉ vs ∧ S[i]? = some (some y) := fun {i y} q => by
    by_cases z : i ∈ vs
    · exact absurd q (wipeS_in z)
    · exact ⟨z, by rw [← wipeS_out z]; exact q⟩
  have so : ∀ {i : Nat}, i ∉ vs → (L2.wipe σ vs)[i]? = σ2[i]? := fun {i} n => by rw [← hw]; exact wipe_out n
  refine ⟨k.ex, k.ex0, by rw [wipeS_length, ← hw, wipe_length]; exact k.len, fun i x e => ?_, fun i x e => ?_, fun i x e => ?_, fun i j a x y e1 e2 e3 e4 => ?_, fun i a e => ?_, k.ioh, k.iod, k.frame, k.gnew, fun a o e => ?_⟩
  · obtain ⟨n, q⟩ := out e
    rw [so n]
    exact k.val i x q
  · obtain ⟨n, q⟩ := out e
    rw [so n]
    exact k.own i x q
  · obtain ⟨n, q⟩ := out e
    rw [so n]
    exact k.inn i x q
  · obtain ⟨n1, q1⟩ := out e1
    obtain ⟨n2, q2⟩ := out e2
    rw [so n1] at e3
    rw [so n2] at e4
    exact k.dist i j a x y q1 q2 e3 e4
  · obtain ⟨x, hx⟩ := k.io i a e
    have n : i ∉ vs := fun z => by rw [hio i z] at e; cases e
    exact ⟨x, by rw [wipeS_out n]; exact hx⟩
  · obtain ⟨r1, r2, r3, r4⟩ := k.rsv a o e
    refine ⟨r1, r2, r3, fun i x q z => ?_⟩
    obtain ⟨n, q'⟩ := out q
    rw [so n] at z
    exact r4 i x q' z
/-- .. and come back -/
theorem StOk.back {vs : List Nat} {G1 H1 : Hp} (k1 : StOk K cl F G1 H1 σ S) (hs : Same G1 G) (k : StOk K cl F G H (wipe σ vs) S2) (hp : ∀ i ∈ vs, ∀ y, S[i]? = some (some y) → ∃ x, y = .p x) (hio : ∀ i ∈ vs, F.io i = none) : StOk K cl F G H σ (backS S S2 vs) := by
  have so : ∀ {i : Nat}, i ∉ vs → (L2.wipe σ vs)[i]? = σ[i]? := fun {i} n => wipe_out n
  have own : ∀ {i : Nat} {x : PV}, (backS S S2 vs)[i]? = some (some (.o x)) → i ∉ vs ∧ S2[i]? = some (some (.o x)) := fun {i x} e => by
    by_cases z : i ∈ vs
    · obtain ⟨w, hw⟩ := hp i z _ (backS_in z e)
      cases hw
    · exact ⟨z, by rw [← backS_out z]; exact e⟩
  refine ⟨k.ex, k.ex0, by rw [backS_length, ← k.len, wipe_length], fun i x e => ?_, fun i x e => ?_, fun i x e => ?_, fun i j a x y e1 e2 e3 e4 => ?_, fun i a e => ?_, k.ioh, k.iod, k.frame, k.gnew, fun a o e => ?_⟩
  · by_cases z : i ∈ vs
    · obtain ⟨v, ev, rv⟩ := k1.val i x (backS_in z e)
      exact ⟨v, ev, rv.mono hs⟩
    · rw [backS_out z] at e
      rw [← so z]
      exact k.val i x e
  · obtain ⟨n, q⟩ := own e
    rw [← so n]
    exact k.own i x q
  · by_cases z : i ∈ vs
    · obtain ⟨w, hw⟩ := hp i z _ (backS_in z e)
      cases hw
    · rw [backS_out z] at e
      rw [← so z]
      exact k.inn i x e
  · obtain ⟨n1, q1⟩ := own e1
    obtain ⟨n2, q2⟩ := own e2
    rw [← so n1] at e3
    rw [← so n2] at e4
    exact k.dist i j a x y q1 q2 e3 e4
  · obtain ⟨x, hx⟩ := k.io i a e
    have n : i ∉ vs := fun z => by rw [hio i z] at e; cases e
    exact ⟨x, by rw [backS_out n]; exact hx⟩
  · obtain ⟨r1, r2, r3, r4⟩ := k.rsv a o e
    refine ⟨r1, r2, r3, fun i x q z => ?_⟩
    obtain ⟨n, q'⟩ := own q
    rw [← so n] at z
    exact r4 i x q' z
end
/-- the turns: what is made of the items -/
def lcGo (vs : List Nat) (g : PV → Sto → Option Sto) (mt : M Bool) (me : M PV) : List PV → Sto → Option (List PV × Sto)
  | [], S => some ([], S)
  | y :: ys, S => match g y S with
    | none => none
    | some S1 => match mt S1 with
      | some (.ok true S2) => match me S2 with
        | some (.ok z S3) => match lcGo vs g mt me ys (wipeS S3 vs) with
          | some (zs, S4) => some (z :: zs, S4)
          | none => none
        | _ => none
      | some (.ok false S2) => lcGo vs g mt me ys (wipeS S2 vs)
      | _ => none
def plainAt (S : Sto) (vs : List Nat) : Bool := vs.all fun i => match S[i]? with
  | some (some (.o _)) => false
  | some (some (.i _)) => false
  | none => false
  | _ => true
def mLc (vs : List Nat) (mi : M (List PV)) (g : PV → Sto → Option Sto) (mt : M Bool) (me : M PV) : M PV := fun S => match mi S with
  | some (.ok ys S1) => if ys.length ≤ sizeLine ∧ plainAt S1 vs = true then match lcGo vs g mt me ys (wipeS S1 vs) with
      | some (zs, S2) => some (.ok (.lst zs) (backS S1 S2 vs))
      | none => none
    else none
  | _ => none
def mYes : M Bool := ret true
theorem lcGo_len {vs : List Nat} {g : PV → Sto → Option Sto} {mt : M Bool} {me : M PV} : ∀ {ys : List PV} {S S' : Sto} {zs : List PV}, lcGo vs g mt me ys S = some (zs, S') → zs.length ≤ ys.length
  | [], S, S', zs, h => by
    unfold lcGo at h
    cases h
    exact Nat.le_refl _
  | y :: ys, S, S', zs, h => by
    unfold lcGo at h
    split at h
    · cases h
    · split at h
      · split at h
        · split at h
          · rename_i e
            cases h
            have := lcGo_len e
            simp only [List.length_cons]
            omega
          · cases h
        · cases h
      · have := lcGo_len h
        simp only [List.length_cons]
        omega
      · cases h
section
variable {X : Cx} {cl : Nat → Addr} {W : WX} {pos : Pos}
/-- a test of a comprehension -/
def TsM (X : Cx) (cl : Nat → Addr) (W : WX) (ifs : List Expr) (m : M Bool) : Prop := ∃ t, PTs X ifs t ∧ Does X.K cl W RB t m
theorem ts_nil : TsM X cl W [] mYes := ⟨_, pts_nil, fun F G H σ S rr Q st hm hp => by
  cases hm
  exact hp _ _ _ (Same.refl _) st rfl⟩
theorem ts_one {c : Expr} {m : M Bool} (h : TM X cl W c m) : TsM X cl W [c] m := by
  obtain ⟨t, p, d⟩ := h
  exact ⟨_, pts_one p, d⟩
abbrev W0 : WX := fun _ _ _ _ => False
/-- the targets take their items into the slots vs alone -/
def gIn (vs : List Nat) (t : TG) : Prop := ∀ (v : V) (σ : L2.St) (H : Hp) (Q Q' : L2.St → Hp → Prop), t v (wipe σ vs) H Q → (∀ σ' H', wipe σ' vs = wipe σ vs → Q σ' H' → Q' σ' H') → t v (wipe σ vs) H Q'
theorem does_lc {vs : List Nat} {wi : TI} {tg : TG} {tt : TT} {te : TE} {mi : M (List PV)} {g : PV → Sto → Option Sto} {mt : M Bool} {me : M PV} (hi : DoesI X.K cl W wi mi) (hg : DoesG X.K cl tg g) (hgi : gIn vs tg)
    (ht : Does X.K cl W0 RB tt mt) (he : Does X.K cl W0 (RV X.K cl) te me) : Does X.K cl W (RV X.K cl) (tLc wi tg tt te vs) (mLc vs mi g mt me) := by
  intro F G H σ S r Q st hm hp
  unfold mLc at hm
  split at hm <;> try (cases hm; done)
  rename_i ys S1 e1
  split at hm <;> try (cases hm; done)
  rename_i c
  obtain ⟨hlen, hpl⟩ := c
  split at hm <;> try (cases hm; done)
  rename_i zs S2 eg
  cases hm
  refine hi F G H σ S ys S1 _ st e1 fun J G1 H1 s1 st1 hw => ?_
  intro D hD
  have plain : ∀ i ∈ vs, ∀ y, S1[i]? = some (some y) → ∃ x, y = .p x := fun i hi y e => by
    have := List.all_eq_true.mp hpl i hi
    rw [e] at this
    cases y with
    | p x => exact ⟨x, rfl⟩
    | o x => cases this
    | i x => cases this
  have hio : ∀ i ∈ vs, F.io i = none := fun i hi => by
    cases q : F.io i with
    | none => rfl
    | some a =>
      obtain ⟨x, hx⟩ := st1.io i a q
      have := List.all_eq_true.mp hpl i hi
      rw [hx] at this
      cases this
  have fr := st1.rfree hD
  have stw := st1.wiped (σ := σ) (vs := vs) rfl hio
  have hfresh : ∀ (i : Nat) (x : PV), (wipeS S1 vs)[i]? = some (some (.o x)) → (wipe σ vs)[i]? ≠ some (some (V.ref D)) := fun i x e z => by
    obtain ⟨a, ea, _, _, q⟩ := stw.own i x e
    rw [z] at ea
    cases ea
    obtain ⟨o, ho⟩ := q.there
    rw [hD] at ho
    cases ho
  have st2 := stw.rsvNew (o := .lst []) hD hfresh
  -- the turns
  refine ⟨fun i n H' => n + i = ys.length ∧ ∃ (G' : Hp) (S' : Sto) (acc : List V) (done rest : List PV), Same G1 G' ∧ acc.length ≤ i ∧ StOk X.K cl { F with R := fun b => if b = D then some (.lst acc) else F.R b } G' H' (wipe σ vs) S' ∧ RepL X.K cl G' acc done ∧
    done ++ rest = zs ∧ lcGo vs g mt me (ys.drop i) S' = some (rest, S2), ⟨ys.length, Nat.add_zero _, G1, _, [], [], zs, Same.refl _, Nat.zero_le _, st2, .nil, rfl, eg⟩, ?_⟩
  rintro i n H' ⟨hn, G', S', acc, dn, rest, s', hacc, st', rl, hz, hl⟩
  obtain ⟨hgo, hstop⟩ := hw i G' H' s' st'.ex
  cases e : ys[i]? with
  | none =>
    have hle : ys.length ≤ i := List.getElem?_eq_none_iff.mp e
    refine .inl ⟨hstop hle, ?_⟩
    rw [List.drop_eq_nil_of_le hle] at hl
    unfold lcGo at hl
    cases hl
    rw [List.append_nil] at hz
    subst hz
    obtain ⟨st3, gD⟩ := st'.rsvEnd fr
    have hzl : acc.length ≤ sizeLine := by
      rw [rl.length]
      exact Nat.le_trans (lcGo_len eg) hlen
    have sg : Same G' (upd G' D (.lst acc)) := same_new gD
    exact hp _ _ _ (s1.trans (s'.trans sg)) (StOk.back st1 (s'.trans sg) st3 plain hio) (.lst upd_same hzl (rl.mono sg))
  | some y =>
    obtain ⟨hlt, _⟩ := List.getElem?_eq_some_iff.mp e
    have hd : ys.drop i = y :: ys.drop (i + 1) := by
      rw [List.drop_eq_getElem_cons hlt]
      have : ys[i] = y := by
        have := List.getElem?_eq_getElem hlt
        rw [e] at this
        exact (Option.some.inj this).symm
      rw [this]
    rw [hd] at hl
    unfold lcGo at hl
    obtain ⟨go, hy⟩ := hgo y e
    refine .inr ⟨go, fun H3 => (n - 1) + (i + 1) = ys.length ∧ ∃ (G' : Hp) (S' : Sto) (acc : List V) (done rest : List PV), Same G1 G' ∧ acc.length ≤ i + 1 ∧ StOk X.K cl { F with R := fun b => if b = D then some (.lst acc) else F.R b } G' H3 (wipe σ vs) S' ∧ RepL X.K cl G' acc done ∧
      done ++ rest = zs ∧ lcGo vs g mt me (ys.drop (i + 1)) S' = some (rest, S2), fun H3 q => ⟨n - 1, by omega, q⟩, fun x H3 hx => ?_⟩
    obtain ⟨G3, s3, st3, r3⟩ := st'.res1 (hy x H3 hx)
    cases eg1 : g y S' with
    | none => rw [eg1] at hl; cases hl
    | some Sg =>
      rw [eg1] at hl
      refine hgi x σ H3 (fun σ' H' => H' = H3 ∧ StOk X.K cl { F with R := fun b => if b = D then some (.lst acc) else F.R b } G3 H3 σ' Sg) _ (hg _ G3 H3 _ S' Sg x y _ st3 r3 eg1 fun σ4 st4 => ⟨rfl, st4⟩) fun σ4 H4 hwσ q4 => ⟨hwσ, ?_⟩
      obtain ⟨rfl, st4⟩ := q4
      simp only [] at hl
      cases et : mt Sg with
      | none => rw [et] at hl; cases hl
      | some rt =>
        rw [et] at hl
        cases rt with
        | ex c fs S5 => cases hl
        | ok b S5 =>
          refine ht _ G3 _ σ4 Sg _ _ st4 et ?_
          intro b' G5 H5 s5 st5 hb
          cases hb
          cases b with
          | false =>
            simp only [] at hl
            rw [if_neg Bool.false_ne_true]
            exact ⟨by omega, G5, _, acc, dn, rest, (s'.trans s3).trans s5, Nat.le_succ_of_le hacc, st5.wiped hwσ hio, (rl.mono s3).mono s5, hz, hl⟩
          | true =>
            simp only [] at hl
            rw [if_pos rfl]
            cases ee : me S5 with
            | none => rw [ee] at hl; cases hl
            | some re =>
              rw [ee] at hl
              cases re with
              | ex c fs S6 => cases hl
              | ok z S6 =>
                simp only [] at hl
                cases eg6 : lcGo vs g mt me (ys.drop (i + 1)) (wipeS S6 vs) with
                | none => rw [eg6] at hl; cases hl
                | some q6 =>
                  obtain ⟨zs6, S7⟩ := q6
                  rw [eg6] at hl
                  cases hl
                  refine he _ G5 H5 σ4 S5 _ _ st5 ee ?_
                  intro w G6 H6 s6 st6 rw'
                  have hH := (st6.rsv D (.lst acc) (if_pos rfl)).1
                  refine ⟨acc, hH, by omega, by omega, G6, _, acc ++ [w], dn ++ [z], zs6, ((s'.trans s3).trans s5).trans s6, by rw [List.length_append, List.length_singleton]; omega,
                    StOk.rsvSet (st6.wiped hwσ hio), (((rl.mono s3).mono s5).mono s6).append (.one rw'), by rw [List.append_assoc]; exact hz, eg6⟩
theorem em_lc {elt tg iter : Expr} {ifs : List Expr} {scope : Scope} {own : List (Str × Nat)} {mi : M (List PV)} {g : PV → Sto → Option Sto} {t : TG} {mt : M Bool} {me : M PV} (hc : X.calm = true) (hN : X.N.Nodup) (hi : IM X cl W tg iter mi) (ok : BlkOk X.N X.env.scope scope own)
    (hg : ∀ (s : Shared) (H : Hp) (C : Addr) (cl' : List (Str × Addr)) (fp : List Addr), PG (X.blk s H scope (compEnvC scope cl' C X.env) fp) tg t) (hgd : DoesG X.K cl t g)
    (hgi : gIn (own.map (·.2)) t)
    (ht : ∃ tt, (∀ (s : Shared) (H : Hp) (C : Addr) (cl' : List (Str × Addr)) (fp : List Addr), PTs (X.blk s H scope (compEnvC scope cl' C X.env) fp) ifs tt) ∧ Does X.K cl W0 RB tt mt)
    (he : ∃ te, (∀ (s : Shared) (H : Hp) (C : Addr) (cl' : List (Str × Addr)) (fp : List Addr), PE (X.blk s H scope (compEnvC scope cl' C X.env) fp) elt te) ∧ Does X.K cl W0 (RV X.K cl) te me)
    (hs : ∀ x, foldedSetIterable iter X.env x = pure x := by intro _; rfl) :
    EM X cl W (.ListComp elt [⟨tg, iter, ifs, 0⟩] scope pos) (mLc (own.map (·.2)) mi g mt me) := by
  obtain ⟨wi, pi, di⟩ := hi
  obtain ⟨tt, pt, dt⟩ := ht
  obtain ⟨te, pe, de⟩ := he
  exact ⟨_, pe_lc hc hN pi ok hg pt pe hs, does_lc di hgd hgi dt de⟩
end
end Kp
set_option Elab.async false
set_option linter.all false
set_option maxRecDepth 100000
set_option maxHeartbeats 2000000
namespace Kp
open PySem PyProof.Rows L2

/-! ### targets -/
section
variable {K : PySem.W.Frag} {cl : Nat → Addr}
theorem does_gN {i : Nat} : DoesG K cl (gName i) (gN i) := fun F G H σ S S' v y Q st r h k => by
  unfold gN at h
  split at h
  · rename_i u S2 e
    cases h
    exact k _ (put_ok st e r)
  · cases h
def gTs : List (PV → Sto → Option Sto) → List PV → Sto → Option Sto
  | [], [], S => some S
  | g :: gs, y :: ys, S => match g y S with
    | some S' => gTs gs ys S'
    | none => none
  | _, _, _ => none
def gT (gs : List (PV → Sto → Option Sto)) : PV → Sto → Option Sto := fun y S => match y with
  | .tup xs => gTs gs xs S
  | _ => none
theorem gTs_len : ∀ {gs : List (PV → Sto → Option Sto)} {ys : List PV} {S S' : Sto}, gTs gs ys S = some S' → ys.length = gs.length
  | [], [], _, _, _ => rfl
  | [], _ :: _, _, _, h => by cases h
  | _ :: _, [], _, _, h => by cases h
  | g :: gs, y :: ys, S, S', h => by
    unfold gTs at h
    split at h
    · rw [List.length_cons, List.length_cons, gTs_len h]
    · cases h
def DoesGs (K : PySem.W.Frag) (cl : Nat → Addr) (t : TGs) (g : List PV → Sto → Option Sto) : Prop :=
  ∀ (F : Fr) (G H : Hp) (σ : L2.St) (S S' : Sto) (vs : List V) (ys : List PV) (Q : L2.St → Hp → Prop), StOk K cl F G H σ S → RepL K cl G vs ys → g ys S = some S' →
    (∀ σ', StOk K cl F G H σ' S' → Q σ' H) → t vs σ H Q
theorem does_gNil : DoesGs K cl gNil (gTs []) := fun F G H σ S S' vs ys Q st r h k => by
  cases ys with
  | nil =>
    cases r
    cases h
    exact ⟨rfl, k σ st⟩
  | cons y ys => cases h
theorem does_gCons {t : TG} {u : TGs} {g : PV → Sto → Option Sto} {gs : List (PV → Sto → Option Sto)} (h1 : DoesG K cl t g) (h2 : DoesGs K cl u (gTs gs)) : DoesGs K cl (gCons t u) (gTs (g :: gs)) := fun F G H σ S S' vs ys Q st r h k => by
  cases ys with
  | nil => cases h
  | cons y ys =>
    cases r with
    | cons rv rvs =>
      unfold gTs at h
      split at h
      · rename_i S1 e
        exact ⟨_, _, rfl, h1 F G H σ S S1 _ y _ st rv e fun σ' st' => h2 F G H σ' S1 S' _ ys Q st' rvs h k⟩
      · cases h
theorem does_gT {n : Nat} {u : TGs} {gs : List (PV → Sto → Option Sto)} (h2 : DoesGs K cl u (gTs gs)) (hn : gs.length = n) : DoesG K cl (gTup K n u) (gT gs) := fun F G H σ S S' v y Q st r h k => by
  cases y <;> try (cases h; done)
  cases r with
  | tup hs hz hr => exact ⟨_, _, rfl, sqt_mono st.ex hs, by rw [hr.length, gTs_len h]; exact hn, h2 F G H σ S S' _ _ Q st hr h k⟩
/-- the target takes the slots vs alone -/
def gInA (vs : List Nat) (t : TG) : Prop := ∀ (v : V) (σ : L2.St) (H : Hp) (Q Q' : L2.St → Hp → Prop), t v σ H Q → (∀ σ' H', wipe σ' vs = wipe σ vs → Q σ' H' → Q' σ' H') → t v σ H Q'
def gInAs (vs : List Nat) (t : TGs) : Prop := ∀ (v : List V) (σ : L2.St) (H : Hp) (Q Q' : L2.St → Hp → Prop), t v σ H Q → (∀ σ' H', wipe σ' vs = wipe σ vs → Q σ' H' → Q' σ' H') → t v σ H Q'
theorem wipe_get (σ : L2.St) (vs : List Nat) (j : Nat) : (wipe σ vs)[j]? = if j ∈ vs then (if j < σ.length then some none else none) else σ[j]? := by
  by_cases h : j ∈ vs
  · rw [if_pos h]
    by_cases lt : j < σ.length
    · rw [if_pos lt]
      cases e : (wipe σ vs)[j]? with
      | none =>
        have := List.getElem?_eq_none_iff.mp e
        rw [wipe_length] at this
        omega
      | some w =>
        cases w with
        | none => rfl
        | some x => exact absurd h (wipe_some e).2
    · rw [if_neg lt]
      exact List.getElem?_eq_none (by rw [wipe_length]; omega)
  · rw [if_neg h]
    exact wipe_out h
theorem wipe_ext {σ σ' : L2.St} {vs : List Nat} (hl : σ.length = σ'.length) (h : ∀ j, j ∉ vs → σ[j]? = σ'[j]?) : wipe σ vs = wipe σ' vs := by
  apply List.ext_getElem?
  intro j
  rw [wipe_get, wipe_get, hl]
  by_cases q : j ∈ vs
  · rw [if_pos q, if_pos q]
  · rw [if_neg q, if_neg q]
    exact h j q
theorem gin_N {vs : List Nat} {i : Nat} (h : i ∈ vs) : gInA vs (gName i) := fun v σ H Q Q' q k => by
  refine k _ _ (wipe_ext (by rw [List.length_set]) fun j hj => ?_) q
  rw [List.getElem?_set_ne (fun z => hj (by rw [← z]; exact h))]
theorem gin_Nil {vs : List Nat} : gInAs vs gNil := fun v σ H Q Q' q k => ⟨q.1, k _ _ rfl q.2⟩
theorem gin_Cons {vs : List Nat} {t : TG} {u : TGs} (h1 : gInA vs t) (h2 : gInAs vs u) : gInAs vs (gCons t u) := fun v σ H Q Q' q k => by
  obtain ⟨x, r, e, q⟩ := q
  exact ⟨x, r, e, h1 x σ H _ _ q fun σ1 H1 w q1 => h2 r σ1 H1 _ _ q1 fun σ2 H2 w2 q2 => k σ2 H2 (w2.trans w) q2⟩
theorem gin_T {vs : List Nat} {n : Nat} {u : TGs} (h : gInAs vs u) : gInA vs (gTup K n u) := fun v σ H Q Q' q k => by
  obtain ⟨a, xs, e, hs, hl, q⟩ := q
  exact ⟨a, xs, e, hs, hl, h xs σ H _ _ q k⟩
theorem gin_of {vs : List Nat} {t : TG} (h : gInA vs t) : gIn vs t := fun v σ H Q Q' q k => by
  refine h v _ H _ _ q fun σ' H' w q' => k σ' H' (w.trans ?_) q'
  exact wipe_ext (wipe_length _ _) fun j hj => wipe_out hj
end

section
variable {X : Cx} {cl : Nat → Addr} {W : WX} {pos : Pos}
theorem gm_of {tg : Expr} {t : TG} {g : PV → Sto → Option Sto} (h : PG X tg t) (d : DoesG X.K cl t g) : GM X cl tg g := ⟨t, h, d⟩
/-- a, b = e -/
def mAsg (m : M PV) (g : PV → Sto → Option Sto) : M Fl := bnd m fun x => fun S => match g x S with
  | some S' => some (.ok .nx S')
  | none => none
theorem sm_asg {tg e : Expr} {m : M PV} {g : PV → Sto → Option Sto} (h : EM X cl W e m) (hg : GM X cl tg g) (hs : swapsWithSole [tg] e pos.line X.env = pure false := by rfl) (hw : swappedStores [tg] e X.env = pure none := by rfl)
    (h1 : (assignEach [tg] X.env).map (·.2) = [assign tg X.env] := by rfl) : SM X cl W (.Assign [tg] e pos) (mAsg m g) := by
  obtain ⟨t, p, d⟩ := h
  obtain ⟨u, q, dg⟩ := hg
  refine ⟨_, ps_asg p q hs hw h1, fun F G H σ S r D st hm hp => ?_⟩
  refine d.stepS st hm hp fun y S1 v G1 H1 hm1 s1 st1 rv hp1 => ?_
  split at hm1
  · rename_i S2 e
    cases hm1
    exact dg F G1 H1 σ S1 S2 v y _ st1 rv e fun σ' st' => hp1 σ' G1 H1 (Same.refl _) st'
  · cases hm1

/-! ### peeks: an own object is looked at, not handed on -/
def pk (i : Nat) (S : Sto) : Option PV := match S[i]? with
  | some (some (.p x)) => some x
  | some (some (.o x)) => some x
  | some (some (.i x)) => some x
  | _ => none
def PV.atom : PV → Bool
  | .non => true
  | .bl _ => true
  | .int _ => true
  | .str _ => true
  | _ => false
theorem Rep.atom {K : PySem.W.Frag} {H H' : Hp} {v : V} {x : PV} (r : Rep K cl H v x) (h : x.atom = true) : Rep K cl H' v x := by
  cases r <;> first | exact .non | exact .bl _ | exact .int _ | exact .str _ ‹_› | cases h
/-- the slot's value, plain over a heap that knows the own object, too -/
theorem pk_view {K : PySem.W.Frag} {F : Fr} {G H : Hp} {σ : L2.St} {S : Sto} {i : Nat} {x : PV} (st : StOk K cl F G H σ S) (h : pk i S = some x) :
    ∃ (v : V) (G' : Hp), σ[i]? = some (some v) ∧ Same G G' ∧ Same G' H ∧ Rep K cl G' v x := by
  have fz : ∀ {a : Addr}, G a = none → OwnAt K cl G H a x → ∃ (G' : Hp), Same G G' ∧ Same G' H ∧ Rep K cl G' (.ref a) x := fun {a} ga q => by
    obtain ⟨o, ho, r⟩ := own_freeze ga q
    refine ⟨_, same_new ga, fun b u e => ?_, r⟩
    by_cases z : b = a
    · subst z
      rw [upd_same] at e
      rw [← e]; exact ho
    · rw [upd_ne z] at e
      exact st.ex b u e
  unfold pk at h
  split at h
  · rename_i y e
    cases h
    obtain ⟨v, ev, rv⟩ := st.val i _ e
    exact ⟨v, G, ev, Same.refl _, st.ex, rv⟩
  · rename_i y e
    cases h
    obtain ⟨a, ea, ga, h0, q⟩ := st.own i _ e
    obtain ⟨G', s1, s2, r⟩ := fz ga q
    exact ⟨_, G', ea, s1, s2, r⟩
  · rename_i y e
    cases h
    obtain ⟨a, ea, ga, hio, q⟩ := st.inn i _ e
    obtain ⟨G', s1, s2, r⟩ := fz ga q
    exact ⟨_, G', ea, s1, s2, r⟩
  · cases h
/-- an operation's end with an atom -/
theorem post_atom {F : Fr} {G G' H H' : Hp} {σ : L2.St} {S : Sto} {Q : VK} {z : PV} {w : V} (h : Post X.K cl (RV X.K cl) F W G σ Q (.ok z S)) (st : StOk X.K cl F G H σ S) (hz : z.atom = true) (q : Res1 X.K cl G' H z w H') : Q w H' := by
  rcases q with ⟨rfl, r⟩ | ⟨p, o, hp, rfl, r⟩
  · exact h w G _ (Same.refl _) st (r.atom hz)
  · exact h w _ _ (same_new (st.free hp)) (st.alloc hp) (r.atom hz)
def opk (i : Nat) (f : PV → Option PV) : M PV := fun S => match pk i S with
  | some x => match f x with
    | some z => if z.atom then some (.ok z S) else none
    | none => none
  | none => none
theorem opk_some {i : Nat} {f : PV → Option PV} {S : Sto} {r : Rs PV} (h : opk i f S = some r) : ∃ x z, pk i S = some x ∧ f x = some z ∧ z.atom = true ∧ r = .ok z S := by
  unfold opk at h
  split at h
  · rename_i x e
    split at h
    · rename_i z ez
      split at h
      · rename_i hz
        cases h
        exact ⟨x, z, e, ez, hz, rfl⟩
      · cases h
    · cases h
  · cases h
def guardPk {α : Type} (i : Nat) (m : M α) : M α := fun S => match pk i S with
  | some _ => m S
  | none => none
theorem guardPk_some {α : Type} {i : Nat} {m : M α} {S : Sto} {r : Rs α} (h : guardPk i m S = some r) : (∃ x, pk i S = some x) ∧ m S = some r := by
  unfold guardPk at h
  split at h
  · rename_i x e
    exact ⟨⟨x, e⟩, h⟩
  · cases h
/-- a op e, a a name -/
def mBinL (g : PV → PV → Option PV) (i : Nat) (mb : M PV) : M PV := guardPk i (bnd mb fun y => opk i fun x => g x y)
def mBinR (g : PV → PV → Option PV) (ma : M PV) (i : Nat) : M PV := bnd ma fun x => opk i fun y => g x y
theorem does_binL {i : Nat} {g : PV → PV → Option PV} {r : R2} {tb : TE} {mb : M PV} (hr : BinS X.K cl r g) (h2 : Does X.K cl W (RV X.K cl) tb mb) : Does X.K cl W (RV X.K cl) (tOp r (tVar i) tb) (mBinL g i mb) := by
  intro F G H σ S rr Q st hm hp
  obtain ⟨⟨x0, e0⟩, hm⟩ := guardPk_some hm
  obtain ⟨v, G0, ev, _⟩ := pk_view st e0
  refine ⟨v, ev, ?_⟩
  refine h2.step st hm hp fun y S2 u G2 H2 hm2 s2 st2 ru hp2 => ?_
  obtain ⟨x, z, e1, ez, hz, rfl⟩ := opk_some hm2
  obtain ⟨v', G3, ev', s3, s3', rv⟩ := pk_view st2 e1
  rw [ev] at ev'
  cases ev'
  exact hr G3 H2 v u x y z Q s3' rv (ru.mono s3) ez fun w H' q => post_atom hp2 st2 hz q
theorem does_binR {i : Nat} {g : PV → PV → Option PV} {r : R2} {ta : TE} {ma : M PV} (hr : BinS X.K cl r g) (h1 : Does X.K cl W (RV X.K cl) ta ma) : Does X.K cl W (RV X.K cl) (tOp r ta (tVar i)) (mBinR g ma i) := by
  intro F G H σ S rr Q st hm hp
  refine h1.step st hm hp fun x S2 u G2 H2 hm2 s2 st2 ru hp2 => ?_
  obtain ⟨y, z, e1, ez, hz, rfl⟩ := opk_some hm2
  obtain ⟨v', G3, ev', s3, s3', rv⟩ := pk_view st2 e1
  exact ⟨v', ev', hr G3 H2 u v' x y z Q s3' (ru.mono s3) rv ez fun w H' q => post_atom hp2 st2 hz q⟩
theorem em_cmpL {op : CmpOp} {a b : Expr} {i : Nat} {g : PV → PV → Option PV} {mb : M PV} (hb : BinR X cl (compareOp op) g) (ha : PE X a (tVar i)) (hb' : EM X cl W b mb) (hm : behindInMarks op b = false) : EM X cl W (.Compare a [op] [b] pos) (mBinL g i mb) := by
  obtain ⟨tb, pb, db⟩ := hb'
  obtain ⟨r, ho, hs⟩ := hb
  exact ⟨_, pe_cmpR ho ha pb hm, does_binL hs db⟩
theorem em_cmpRt {op : CmpOp} {a b : Expr} {i : Nat} {g : PV → PV → Option PV} {ma : M PV} (hb : BinR X cl (compareOp op) g) (ha : EM X cl W a ma) (hb' : PE X b (tVar i)) (hm : behindInMarks op b = false) : EM X cl W (.Compare a [op] [b] pos) (mBinR g ma i) := by
  obtain ⟨ta, pa, da⟩ := ha
  obtain ⟨r, ho, hs⟩ := hb
  exact ⟨_, pe_cmpR ho pa hb' hm, does_binR hs da⟩
theorem tm_cmpL {op : CmpOp} {a b : Expr} {i : Nat} {g : PV → PV → Option PV} {mb : M PV} (hb : BinR X cl (compareOp op) g) (ha : PE X a (tVar i)) (hb' : EM X cl W b mb) (hm : behindInMarks op b = false) : TM X cl W (.Compare a [op] [b] pos) (mTest (mBinL g i mb)) := by
  obtain ⟨tb, pb, db⟩ := hb'
  obtain ⟨r, ho, hs⟩ := hb
  exact ⟨_, pt_cmpR ho ha pb hm, does_test (does_binL hs db)⟩
theorem tm_cmpRt {op : CmpOp} {a b : Expr} {i : Nat} {g : PV → PV → Option PV} {ma : M PV} (hb : BinR X cl (compareOp op) g) (ha : EM X cl W a ma) (hb' : PE X b (tVar i)) (hm : behindInMarks op b = false) : TM X cl W (.Compare a [op] [b] pos) (mTest (mBinR g ma i)) := by
  obtain ⟨ta, pa, da⟩ := ha
  obtain ⟨r, ho, hs⟩ := hb
  exact ⟨_, pt_cmpR ho pa hb' hm, does_test (does_binR hs da)⟩
end
end Kp
set_option Elab.async false
set_option linter.all false
set_option maxRecDepth 100000
set_option maxHeartbeats 2000000
namespace Kp
open PySem PyProof.Rows L2

/-! ### dicts: keys ints and texts -/
def keyEq : PV → PV → Bool
  | .int i, .int j => decide (i = j)
  | .str a, .str b => decide (a = b)
  | _, _ => false
def isKey : PV → Option Key
  | .int i => some (.inl i)
  | .str s => some (.inr s)
  | _ => none
def dGet (kvs : List (PV × PV)) (y : PV) : Option PV := (kvs.find? fun kv => keyEq kv.1 y).map (·.2)
def dPut (kvs : List (PV × PV)) (y z : PV) : List (PV × PV) := if (kvs.any fun kv => keyEq kv.1 y) = true then kvs.map (fun kv => if keyEq kv.1 y = true then (kv.1, z) else kv) else kvs ++ [(y, z)]
theorem isKey_some {y : PV} {k : Key} (h : isKey y = some k) : y = keyPV k := by
  cases y <;> first | (cases h; rfl) | cases h
theorem keyEq_key (j k : Key) : keyEq (keyPV j) (keyPV k) = decide (j = k) := by
  rcases j with i | a <;> rcases k with i' | b
  · show decide (i = i') = decide (Sum.inl i = (Sum.inl i' : Key))
    congr 1
    exact propext ⟨fun e => by rw [e], fun e => by cases e; rfl⟩
  · rfl
  · rfl
  · show decide (a = b) = decide (Sum.inr a = (Sum.inr b : Key))
    congr 1
    exact propext ⟨fun e => by rw [e], fun e => by cases e; rfl⟩
theorem rep_key {K : PySem.W.Frag} {cl : Nat → Addr} {H : Hp} {v : V} {k : Key} (r : Rep K cl H v (keyPV k)) : v = kV k := by
  cases k with
  | inl i => cases r; rfl
  | inr s => cases r; rfl
section
variable {K : PySem.W.Frag} {cl : Nat → Addr} {H : Hp}
theorem RepK.get : ∀ {gs : List (Key × V)} {kvs : List (PV × PV)} {k : Key}, RepK K cl H gs kvs → (∀ x, dGet kvs (keyPV k) = some x → ∃ v, valV gs k = some v ∧ Rep K cl H v x) ∧ (dGet kvs (keyPV k) = none → valV gs k = none)
  | _, _, _, .nil => ⟨(fun x h => by cases h), (fun _ => rfl)⟩
  | _, _, k, .cons (k := j) (v := v) (vs := vs) (x := x) (xs := xs) h hs => by
    have ih := RepK.get (k := k) hs
    by_cases e : j = k
    · subst e
      have e1 : dGet ((keyPV j, x) :: xs) (keyPV j) = some x := by
        unfold dGet
        rw [List.find?_cons, keyEq_key]
        simp
      rw [e1, valV_pos rfl]
      exact ⟨fun y q => by cases q; exact ⟨_, rfl, h⟩, fun q => by cases q⟩
    · have e1 : dGet ((keyPV j, x) :: xs) (keyPV k) = dGet xs (keyPV k) := by
        unfold dGet
        rw [List.find?_cons, keyEq_key]
        simp [e]
      rw [e1, valV_neg e]
      exact ih
theorem RepK.any : ∀ {gs : List (Key × V)} {kvs : List (PV × PV)} {k : Key}, RepK K cl H gs kvs → (kvs.any fun kv => keyEq kv.1 (keyPV k)) = gs.any fun kv => decide (kv.1 = k)
  | _, _, _, .nil => rfl
  | _, _, k, .cons (k := j) h hs => by
    simp only [List.any_cons]
    rw [RepK.any hs, keyEq_key]
theorem RepK.repl : ∀ {gs : List (Key × V)} {kvs : List (PV × PV)} {k : Key} {v : V} {z : PV}, RepK K cl H gs kvs → Rep K cl H v z → RepK K cl H (gs.map fun kv => if kv.1 = k then (kv.1, v) else kv) (kvs.map fun kv => if keyEq kv.1 (keyPV k) = true then (kv.1, z) else kv)
  | _, _, _, _, _, .nil, _ => .nil
  | _, _, k, _, _, .cons (k := j) h hs, r => by
    simp only [List.map_cons]
    rw [keyEq_key]
    by_cases e : j = k
    · subst e
      simp only [decide_true, if_true]
      exact .cons r (RepK.repl hs r)
    · rw [if_neg e, if_neg (by simp [e])]
      exact .cons h (RepK.repl hs r)
theorem RepK.append : ∀ {gs gs' : List (Key × V)} {kvs kvs' : List (PV × PV)}, RepK K cl H gs kvs → RepK K cl H gs' kvs' → RepK K cl H (gs ++ gs') (kvs ++ kvs')
  | _, _, _, _, .nil, h => h
  | _, _, _, _, .cons h hs, k => .cons h (RepK.append hs k)
theorem RepK.put {gs : List (Key × V)} {kvs : List (PV × PV)} {k : Key} {v : V} {z : PV} (h : RepK K cl H gs kvs) (r : Rep K cl H v z) : RepK K cl H (putK gs k v) (dPut kvs (keyPV k) z) := by
  unfold putK dPut
  rw [h.any]
  split
  · exact h.repl r
  · exact h.append (.cons r .nil)
theorem RepK.length : ∀ {gs : List (Key × V)} {kvs : List (PV × PV)}, RepK K cl H gs kvs → gs.length = kvs.length
  | _, _, .nil => rfl
  | _, _, .cons _ hs => by rw [List.length_cons, List.length_cons, RepK.length hs]
end

section
variable {X : Cx} {cl : Nat → Addr} {W : WX} {pos : Pos}
/-! ### x[k] -/
def rIxD : R2 := fun x y H Q => ∃ a v, x = .ref a ∧ DGet H a y (some v) ∧ Q v H
theorem ix_dct (hu : X.A.units + 1 < cLine) : IxR X rIxD := by
  intro value slice pins s σ H x y v u Q I rx ry h hs
  obtain ⟨a, w, rfl, g, q⟩ := h
  obtain rfl : v = Value.ref a := rx
  have hT := dict_typeIs I g
  unfold subscriptTail
  refine wpAny_bind ?_
  rw [getitemInPython_of_ne hT.not_modules]
  refine wpAny_bind (wpAny_specialOf hT PySem.F.slot_dict_getitem.lookup ?_)
  have fin : wpAny (model X.prog X.w) X.A (subscripted slice false (.ref a) u) (fun r s₃ => wpAny (model X.prog X.w) X.A (letTemporaryGo value (.ref a) r >>= fun _ => pure r) (EP X pins σ Q) X.xe s₃) X.xe s := by
    rw [hs]
    exact wpAny_operating (d_getItem hu I g ry fun w' s3 I3 rw' => wpAny_bind (wpAny_letTemporaryGo (wpAny_pure ⟨w, H, I3, rw', q⟩)))
  first
    | exact wpAny_pure (wpAny_bind fin)
    | exact wpAny_bind (wpAny_pure (wpAny_bind fin))
    | exact wpAny_bind fin
def rIxA (K : PySem.W.Frag) : R2 := fun x y H Q => rIx K x y H Q ∨ rIxD x y H Q
theorem ix_any (hu : X.A.units + 64 < cLine) : IxR X (rIxA X.K) := ix_seq.or (ix_dct (by omega))
def pIx (x i : PV) : Option PV := match x with
  | .dct kvs => if (isKey i).isSome then dGet kvs i else none
  | _ => pIdx x i
theorem bs_ix : BinS X.K cl (rIxA X.K) pIx := by
  intro G H v u x y z Q e rv ru hz k
  unfold pIx at hz
  cases x <;> try exact .inl (bs_idx G H v u _ y z Q e rv ru hz k)
  dsimp only at hz
  split at hz <;> try (cases hz; done)
  rename_i kvs hk
  obtain ⟨kk, ek⟩ := Option.isSome_iff_exists.mp hk
  obtain rfl := isKey_some ek
  obtain rfl := rep_key ru
  cases rv with
  | dct hs hr =>
    obtain ⟨w, ew, rw'⟩ := hr.get.1 _ hz
    refine .inr ⟨_, w, rfl, ?_, k _ _ (.inl ⟨rfl, rw'⟩)⟩
    rw [← ew]
    exact DGet.k (e _ _ hs)
theorem em_ix {a b : Expr} {ma mb : M PV} (hu : X.A.units + 64 < cLine) (ha : EM X cl W a ma) (hb : EM X cl W b mb) (hs : PlainIx b := by exact fun _ _ => rfl) : EM X cl W (.Subscript a b pos) (mBin pIx ma mb) := by
  obtain ⟨ta, pa, da⟩ := ha
  obtain ⟨tb, pb, db⟩ := hb
  exact ⟨_, pe_ix (ix_any hu) pa pb hs, does_bin bs_ix da db⟩
/-- x[k], x a name -/
def mIxV (i : Nat) (mk : M PV) : M PV := guardPk i (bnd mk fun y => fun S => match pk i S with
  | some x => match pIx x y with
    | some z => some (.ok z S)
    | none => none
  | none => none)
theorem em_ixV {a b : Expr} {i : Nat} {mb : M PV} (hu : X.A.units + 64 < cLine) (ha : PE X a (tVar i)) (hb : EM X cl W b mb) (hs : PlainIx b := by exact fun _ _ => rfl) : EM X cl W (.Subscript a b pos) (mIxV i mb) := by
  obtain ⟨tb, pb, db⟩ := hb
  refine ⟨_, pe_ix (ix_any hu) ha pb hs, fun F G H σ S rr Q st hm hp => ?_⟩
  obtain ⟨⟨x0, e0⟩, hm⟩ := guardPk_some hm
  obtain ⟨v, G0, ev, _⟩ := pk_view st e0
  refine ⟨v, ev, ?_⟩
  refine db.step st hm hp fun y S2 u G2 H2 hm2 s2 st2 ru hp2 => ?_
  split at hm2 <;> try (cases hm2; done)
  rename_i x e1
  split at hm2 <;> try (cases hm2; done)
  rename_i z ez
  cases hm2
  have own : ∀ {a : Addr}, v = .ref a → OwnAt X.K cl G2 H2 a x → rIxA X.K v u H2 Q := fun {a} ea q => by
    subst ea
    unfold pIx at ez
    cases x <;> try exact q.elim
    · obtain ⟨vs, e2, hz, r⟩ := q
      unfold pIdx at ez
      cases y <;> try (cases ez; done)
      cases ru
      obtain ⟨w, ew, rw'⟩ := atI_rep r ez
      exact .inl (.inl ⟨_, _, _, w, rfl, rfl, SqL.of e2, ew, hp2 w G2 H2 (Same.refl _) st2 rw'⟩)
    · obtain ⟨gs, e2, r⟩ := q
      dsimp only at ez
      split at ez <;> try (cases ez; done)
      rename_i kvs hk
      obtain ⟨kk, ek⟩ := Option.isSome_iff_exists.mp hk
      obtain rfl := isKey_some ek
      obtain rfl := rep_key ru
      obtain ⟨w, ew, rw'⟩ := r.get.1 _ ez
      refine .inr ⟨_, w, rfl, ?_, hp2 w G2 H2 (Same.refl _) st2 rw'⟩
      rw [← ew]
      exact DGet.k e2
    · cases ez
  unfold pk at e1
  split at e1
  · rename_i y' e
    cases e1
    obtain ⟨v', ev', rv⟩ := st2.val i _ e
    rw [ev] at ev'
    cases ev'
    exact bs_ix G2 H2 v u x y z Q st2.ex rv ru ez fun w H' q => hp2.res1 st2 q
  · rename_i y' e
    cases e1
    obtain ⟨a, ea, ga, h0, q⟩ := st2.own i _ e
    rw [ev] at ea
    cases ea
    exact own rfl q
  · rename_i y' e
    cases e1
    obtain ⟨a, ea, ga, h0, q⟩ := st2.inn i _ e
    rw [ev] at ea
    cases ea
    exact own rfl q
  · cases e1

/-! ### y in d -/
def rInD (n : Bool) : R2 := fun y x H Q => ∃ a o, x = .ref a ∧ DGet H a y o ∧ Q (.bl (if n then !o.isSome else o.isSome)) H
theorem op_inD (hu : X.A.units + 1 < cLine) : OpR X (compareOp .In) (rInD false) := by
  intro pins s σ H y x u v Q I ry rx h
  obtain ⟨a, o, rfl, g, q⟩ := h
  obtain rfl : v = Value.ref a := rx
  exact d_in hu I g ry fun s3 I3 => ⟨.bl o.isSome, H, I3, rfl, q⟩
theorem op_notInD (hu : X.A.units + 1 < cLine) : OpR X (compareOp .NotIn) (rInD true) := by
  intro pins s σ H y x u v Q I ry rx h
  obtain ⟨a, o, rfl, g, q⟩ := h
  obtain rfl : v = Value.ref a := rx
  exact d_notIn hu I g ry fun s3 I3 => ⟨.bl (!o.isSome), H, I3, rfl, q⟩
def pHasB (x c : PV) : Option Bool := match c with
  | .dct kvs => if (isKey x).isSome then some (dGet kvs x).isSome else none
  | _ => pInB x c
def pHas (x c : PV) : Option PV := (pHasB x c).map PV.bl
def pHasNot (x c : PV) : Option PV := (pHasB x c).map fun b => .bl (!b)
theorem dget_rep {G H : Hp} {u v : V} {x : PV} {kvs : List (PV × PV)} (e : Same G H) (hk : (isKey x).isSome = true) (rx : Rep X.K cl G v x) (r : Rep X.K cl G u (.dct kvs)) : ∃ a o, u = .ref a ∧ DGet H a v o ∧ o.isSome = (dGet kvs x).isSome := by
  obtain ⟨kk, ek⟩ := Option.isSome_iff_exists.mp hk
  obtain rfl := isKey_some ek
  obtain rfl := rep_key rx
  cases r with
  | dct hs hr =>
    refine ⟨_, _, rfl, DGet.k (e _ _ hs), ?_⟩
    cases q : dGet kvs (keyPV kk) with
    | none => rw [hr.get.2 q]; rfl
    | some z =>
      obtain ⟨w, ew, _⟩ := hr.get.1 _ q
      rw [ew]
      rfl
theorem br_has (hu : X.A.units + 64 < cLine) : BinR X cl (compareOp .In) pHas := by
  obtain ⟨r, hr, hs⟩ := br_in (X := X) (cl := cl) hu
  refine ⟨_, hr.or (op_inD (by omega)), ?_⟩
  intro G H v u x y z Q e rv ru hz k
  unfold pHas pHasB at hz
  cases y <;> try exact .inl (hs G H v u x _ z Q e rv ru hz k)
  dsimp only at hz
  split at hz <;> try (cases hz; done)
  rename_i kvs hk
  cases hz
  obtain ⟨a, o, e1, g, e2⟩ := dget_rep e hk rv ru
  refine .inr ⟨a, o, e1, g, ?_⟩
  rw [if_neg Bool.false_ne_true, e2]
  exact k _ _ (.inl ⟨rfl, .bl _⟩)
theorem br_hasNot (hu : X.A.units + 64 < cLine) : BinR X cl (compareOp .NotIn) pHasNot := by
  obtain ⟨r, hr, hs⟩ := br_notIn (X := X) (cl := cl) hu
  refine ⟨_, hr.or (op_notInD (by omega)), ?_⟩
  intro G H v u x y z Q e rv ru hz k
  unfold pHasNot pHasB at hz
  cases y <;> try exact .inl (hs G H v u x _ z Q e rv ru hz k)
  dsimp only at hz
  split at hz <;> try (cases hz; done)
  rename_i kvs hk
  cases hz
  obtain ⟨a, o, e1, g, e2⟩ := dget_rep e hk rv ru
  refine .inr ⟨a, o, e1, g, ?_⟩
  rw [if_pos rfl, e2]
  exact k _ _ (.inl ⟨rfl, .bl _⟩)

/-! ### x[k] = e -/
def pPut (x k v : PV) : Option PV := match x with
  | .lst xs => match k with
    | .int j => match ixN xs.length j with
      | some n => some (.lst (xs.set n v))
      | none => none
    | _ => none
  | .dct kvs => if (isKey k).isSome && decide (kvs.length < sizeLine) then some (.dct (dPut kvs k v)) else none
  | _ => none
def rSetA : TSet := fun o i v H Q => rSetL o i v H Q ∨ ∃ a H', o = .ref a ∧ DPut H a i v H' ∧ Q H'
theorem pset_any (hu : X.A.units + 64 < cLine) : PSet X rSetA := by
  intro pins s σ H o i v ov iv u Q I ro ri rv h
  rcases h with h | ⟨a, H', e, g, q⟩
  · exact set_list pins s σ H o i v ov iv u Q I ro ri rv h
  · subst e
    obtain rfl : ov = Value.ref a := ro
    exact d_setItem (by omega) I g ri rv fun s4 I4 => ⟨H', I4, q⟩
def updO (i : Nat) (f : PV → Option PV) : M Unit := fun S => match S[i]? with
  | some (some (.o x)) => match f x with
    | some x' => some (.ok () (S.set i (some (.o x'))))
    | none => none
  | some (some (.i x)) => match f x with
    | some x' => some (.ok () (S.set i (some (.i x'))))
    | none => none
  | _ => none
theorem updO_use {K : PySem.W.Frag} {F : Fr} {G H : Hp} {σ : L2.St} {S : Sto} {i : Nat} {f : PV → Option PV} {r : Rs Unit} (st : StOk K cl F G H σ S) (h : updO i f S = some r) : ∃ (a : Addr) (x x' : PV) (S' : Sto), r = .ok () S' ∧ σ[i]? = some (some (.ref a)) ∧ G a = none ∧ OwnAt K cl G H a x ∧ f x = some x' ∧
    ∀ o, OwnAt K cl G (upd H a o) a x' → StOk K cl F G (upd H a o) σ S' := by
  unfold updO at h
  split at h
  · rename_i x e
    split at h <;> try (cases h; done)
    rename_i x' ex
    cases h
    obtain ⟨a, ea, ga, h0, q⟩ := st.own i x e
    exact ⟨a, x, x', _, rfl, ea, ga, q, ex, fun o w => st.chg e ea w⟩
  · rename_i x e
    split at h <;> try (cases h; done)
    rename_i x' ex
    cases h
    obtain ⟨a, ea, ga, h0, q⟩ := st.inn i x e
    exact ⟨a, x, x', _, rfl, ea, ga, q, ex, fun o w => st.chgi e ea w⟩
  · cases h
def mPut (i : Nat) (mk me : M PV) : M Fl := bnd me fun v => guardPk i (bnd mk fun k => bnd (updO i fun x => pPut x k v) fun _ => ret .nx)
theorem set_any {K : PySem.W.Frag} {G H : Hp} {a : Addr} {x k v x' : PV} {wk wv : V} {Q : Hp → Prop} (q : OwnAt K cl G H a x) (rk : Rep K cl G wk k) (rv : Rep K cl G wv v) (h : pPut x k v = some x') (hq : ∀ o, OwnAt K cl G (upd H a o) a x' → Q (upd H a o)) : rSetA (.ref a) wk wv H Q := by
  unfold pPut at h
  cases x <;> try exact q.elim
  · obtain ⟨vs, e, hz, r⟩ := q
    dsimp only at h
    cases k <;> try (cases h; done)
    dsimp only at h
    split at h <;> try (cases h; done)
    rename_i en
    cases h
    cases rk
    exact .inl ⟨a, vs, _, _, rfl, rfl, e, by rw [r.length]; exact en, hq _ ⟨_, upd_same, by rw [List.length_set]; exact hz, r.set _ rv⟩⟩
  · obtain ⟨gs, e, r⟩ := q
    dsimp only at h
    split at h <;> try (cases h; done)
    rename_i kvs c
    simp only [Bool.and_eq_true, decide_eq_true_eq] at c
    cases h
    obtain ⟨kk, ek⟩ := Option.isSome_iff_exists.mp c.1
    obtain rfl := isKey_some ek
    obtain rfl := rep_key rk
    exact .inr ⟨a, _, rfl, DPut.k e (by rw [r.length]; exact c.2), hq _ ⟨_, upd_same, r.put rv⟩⟩
  · cases h
theorem sm_put {o k e : Expr} {i : Nat} {mk me : M PV} {pos' : Pos} (hu : X.A.units + 64 < cLine) (ho : PE X o (tVar i)) (hk : EM X cl W k mk) (he : EM X cl W e me)
    (ha : ∀ v, assign (.Subscript o k pos') X.env v = (do
      let ov ← holding [v] (eval o X.env)
      let iv ← holding [v, ov] (eval k X.env)
      standAt pos'
      holding [v, ov, iv] (setItem ov iv v)
      release [v, ov, iv] []) := by intro _; rfl)
    (hs : swapsWithSole [.Subscript o k pos'] e pos.line X.env = pure false := by rfl) (hw : swappedStores [.Subscript o k pos'] e X.env = pure none := by rfl)
    (h1 : (assignEach [.Subscript o k pos'] X.env).map (·.2) = [assign (.Subscript o k pos') X.env] := by rfl) : SM X cl W (.Assign [.Subscript o k pos'] e pos) (mPut i mk me) := by
  obtain ⟨te, pe, de⟩ := he
  obtain ⟨tk, pk', dk⟩ := hk
  refine ⟨_, ps_asg pe (pg_sub ho pk' (pset_any hu) ha) hs hw h1, fun F G H σ S r D st hm hp => ?_⟩
  refine de.stepS st hm hp fun v S1 wv G1 H1 hm1 s1 st1 rv hp1 => ?_
  obtain ⟨⟨x0, e0⟩, hm1⟩ := guardPk_some hm1
  obtain ⟨w0, G0, ev, _⟩ := pk_view st1 e0
  refine ⟨w0, ev, ?_⟩
  refine dk.stepS st1 hm1 hp1 fun kk S2 wk G2 H2 hm2 s2 st2 rk hp2 => ?_
  rcases bnd_some hm2 with ⟨u, S3, e3, e4⟩ | ⟨c, fs, S3, e3, _⟩
  · cases e4
    obtain ⟨a, x, x', S', e5, ea, ga, q, ef, fin⟩ := updO_use st2 e3
    cases e5
    rw [ev] at ea
    cases ea
    exact set_any q rk (rv.mono s2) ef fun o w => hp2 _ _ _ (Same.refl _) (fin o w)
  · obtain ⟨a, x, x', S', e5, _⟩ := updO_use st2 e3
    cases e5

/-! ### methods of own objects -/
def isOT (T : String) (i : Nat) (S : Sto) : Bool := match S[i]? with
  | some (some (.o (.lst _))) => T == "list"
  | some (some (.i (.lst _))) => T == "list"
  | some (some (.o (.dct _))) => T == "dict"
  | some (some (.i (.dct _))) => T == "dict"
  | _ => false
theorem isOT_ty {F : Fr} {G H : Hp} {σ : L2.St} {S : Sto} {T : String} {i : Nat} (st : StOk X.K cl F G H σ S) (h : isOT T i S = true) : ∃ a, σ[i]? = some (some (V.ref a)) ∧ tyV X.K T (.ref a) H := by
  unfold isOT at h
  split at h
  · rename_i xs e
    obtain ⟨a, ea, _, _, vs, eh, _⟩ := st.own i _ e
    exact ⟨a, ea, .inl ⟨beq_iff_eq.mp h, vs, SqL.of eh⟩⟩
  · rename_i xs e
    obtain ⟨a, ea, _, _, vs, eh, _⟩ := st.inn i _ e
    exact ⟨a, ea, .inl ⟨beq_iff_eq.mp h, vs, SqL.of eh⟩⟩
  · rename_i xs e
    obtain ⟨a, ea, _, _, vs, eh, _⟩ := st.own i _ e
    exact ⟨a, ea, .inr (.inr (.inl ⟨beq_iff_eq.mp h, .inl ⟨vs, eh⟩⟩))⟩
  · rename_i xs e
    obtain ⟨a, ea, _, _, vs, eh, _⟩ := st.inn i _ e
    exact ⟨a, ea, .inr (.inr (.inl ⟨beq_iff_eq.mp h, .inl ⟨vs, eh⟩⟩))⟩
  · cases h
def MtO (K : PySem.W.Frag) (cl : Nat → Addr) (r : V → List V → Hp → VK → Prop) (f : PV → List PV → Option (PV × PV)) : Prop :=
  ∀ (G H : Hp) (a : Addr) (x : PV) (vs : List V) (xs : List PV) (x' z : PV) (Q : VK), Same G H → G a = none → OwnAt K cl G H a x → RepL K cl G vs xs → f x xs = some (x', z) →
    (∀ w o, OwnAt K cl G (upd H a o) a x' → Rep K cl G w z → Q w (upd H a o)) → r (.ref a) vs H Q
def updR (i : Nat) (f : PV → Option (PV × PV)) : M PV := fun S => match S[i]? with
  | some (some (.o x)) => match f x with
    | some (x', z) => some (.ok z (S.set i (some (.o x'))))
    | none => none
  | some (some (.i x)) => match f x with
    | some (x', z) => some (.ok z (S.set i (some (.i x'))))
    | none => none
  | _ => none
theorem updR_use {K : PySem.W.Frag} {F : Fr} {G H : Hp} {σ : L2.St} {S : Sto} {i : Nat} {f : PV → Option (PV × PV)} {r : Rs PV} (st : StOk K cl F G H σ S) (h : updR i f S = some r) : ∃ (a : Addr) (x x' z : PV) (S' : Sto), r = .ok z S' ∧ σ[i]? = some (some (.ref a)) ∧ G a = none ∧ OwnAt K cl G H a x ∧ f x = some (x', z) ∧
    ∀ o, OwnAt K cl G (upd H a o) a x' → StOk K cl F G (upd H a o) σ S' := by
  unfold updR at h
  split at h
  · rename_i x e
    split at h <;> try (cases h; done)
    rename_i x' z ex
    cases h
    obtain ⟨a, ea, ga, h0, q⟩ := st.own i x e
    exact ⟨a, x, x', z, _, rfl, ea, ga, q, ex, fun o w => st.chg e ea w⟩
  · rename_i x e
    split at h <;> try (cases h; done)
    rename_i x' z ex
    cases h
    obtain ⟨a, ea, ga, h0, q⟩ := st.inn i x e
    exact ⟨a, x, x', z, _, rfl, ea, ga, q, ex, fun o w => st.chgi e ea w⟩
  · cases h
def mMt (T : String) (i : Nat) (f : PV → List PV → Option (PV × PV)) (ms : List (M PV)) : M PV := fun S => if isOT T i S = true then bnd (mArgs ms) (fun xs => updR i fun x => f x xs) S else none
theorem does_mt {T : String} {i : Nat} {r : V → List V → Hp → VK → Prop} {f : PV → List PV → Option (PV × PV)} {t : TA} {ms : List (M PV)} (hr : MtO X.K cl r f) (da : Does X.K cl W (RL X.K cl) t (mArgs ms)) : Does X.K cl W (RV X.K cl) (tBM X.K T r (tVar i) t) (mMt T i f ms) := by
  intro F G H σ S rr Q st hm hp
  unfold mMt at hm
  split at hm <;> try (cases hm; done)
  rename_i hT
  obtain ⟨a, ea, ty⟩ := isOT_ty st hT
  refine ⟨_, ea, ty, ?_⟩
  refine da.step (R2 := RV X.K cl) st hm hp fun xs S2 vs G2 H2 hm2 s2 st2 rv hp2 => ?_
  obtain ⟨a', x, x', z, S', e5, ea', ga, q, ef, fin⟩ := updR_use st2 hm2
  subst e5
  rw [ea] at ea'
  cases ea'
  exact hr G2 H2 a x vs xs x' z Q st2.ex ga q rv ef fun w o q' r' => hp2 w G2 _ (Same.refl _) (fin o q') r'
theorem em_mt {o e : Expr} {es : List Expr} {name : Str} {apos : Pos} {T id : String} {r : V → List V → Hp → VK → Prop} {f : PV → List PV → Option (PV × PV)} {i : Nat} {ms : List (M PV)} (pa : PlainAttrs T) (slot : Slot T name id) (hty : typeOf (.builtin id) = pure (.type "method_descriptor")) (hm : MtR X id r) (hr : MtO X.K cl r f) (ho : PE X o (tVar i)) (ha : AM X cl W (e :: es) (mArgs ms))
    (hbase : attributeBase o name X.env (eval o X.env) = eval o X.env := by rfl)
    (hfew : ((backTo pos (starEach (e :: es) X.env)).all (fun x => !x.1) && (backToKw pos (keywordEach [] X.env)).all (fun x => x.1.isSome)
      && decide ((e :: es).length + ([] : List Keyword).length + (if ([] : List Keyword).isEmpty then 0 else 1) < 30)) = true := by rfl)
    (hline : (apos.endLine == pos.line) = true := by rfl) (hs : starEach (e :: es) X.env = (false, eval e X.env) :: starEach es X.env := by rfl) (hplain : (backTo pos (starEach es X.env)).any (·.1) = false := by rfl) :
    EM X cl W (.Call (.Attribute o name apos) (e :: es) [] pos) (mMt T i f ms) := by
  obtain ⟨t, pa', da⟩ := ha
  exact ⟨_, pe_bm pa slot hty hm ho pa' hbase hfew hline hs hplain, does_mt hr da⟩
/-- append -/
def fApp (x : PV) (xs : List PV) : Option (PV × PV) := match x, xs with
  | .lst ys, [y] => if ys.length < sizeLine then some (.lst (ys ++ [y]), .non) else none
  | _, _ => none
theorem mto_app : MtO X.K cl rAppend fApp := by
  intro G H a x vs xs x' z Q e ga q rl h k
  unfold fApp at h
  split at h <;> try (cases h; done)
  split at h <;> try (cases h; done)
  rename_i ys y hl
  cases h
  obtain ⟨ws, eh, hz, r⟩ := q
  cases rl with
  | cons ry rn =>
    cases rn
    have hw : ws.length < sizeLine := by rw [r.length]; exact hl
    exact ⟨a, ws, _, rfl, rfl, eh, hw, k _ _ ⟨_, upd_same, by rw [List.length_append, List.length_singleton]; omega, r.append (.one ry)⟩ .non⟩
def mApp (i : Nat) (m : M PV) : M Fl := mDrop (mMt "list" i fApp [m])
theorem sm_app {o e : Expr} {apos p : Pos} {i : Nat} {m : M PV} (ho : PE X o (tVar i)) (he : EM X cl W e m)
    (hbase : attributeBase o "append" X.env (eval o X.env) = eval o X.env := by rfl)
    (hfew : ((backTo p (starEach [e] X.env)).all (fun x => !x.1) && (backToKw p (keywordEach [] X.env)).all (fun x => x.1.isSome)
      && decide ([e].length + ([] : List Keyword).length + (if ([] : List Keyword).isEmpty then 0 else 1) < 30)) = true := by rfl)
    (hline : (apos.endLine == p.line) = true := by rfl) (hs : starEach [e] X.env = (false, eval e X.env) :: starEach [] X.env := by rfl) (hplain : (backTo p (starEach [] X.env)).any (·.1) = false := by rfl)
    (hsw : swapsWith (.Call (.Attribute o "append" apos) [e] [] p) none pos.line X.env = pure false := by rfl) :
    SM X cl W (.Expr (.Call (.Attribute o "append" apos) [e] [] p) pos) (mApp i m) :=
  sm_expr (em_mt PySem.F.plainAttrs_list PySem.F.slot_list_append PySem.F.type_list_append mt_append mto_app ho (am_cons he am_nil hs) hbase hfew hline hs hplain) hsw
end
end Kp
set_option Elab.async false
set_option linter.all false
set_option maxRecDepth 100000
set_option maxHeartbeats 2000000
namespace Kp
open PySem PyProof.Rows L2

/-! ### fresh objects, to be changed -/
def PostF (K : PySem.W.Frag) (cl : Nat → Addr) (F : Fr) (W : WX) (G : Hp) (σ : L2.St) (Q : V → Hp → Prop) : Rs PV → Prop
  | .ok x S' => ∀ (a : Addr) (G' H' : Hp), Same G G' → StOk K cl F G' H' σ S' → G' a = none → F.H0 a = none → F.R a = none → (∀ (i : Nat) (y : PV), S'[i]? = some (some (.o y)) → σ[i]? ≠ some (some (V.ref a))) → OwnAt K cl G' H' a x → Q (.ref a) H'
  | .ex c fs S' => ExP K cl F W G σ c fs S'
def DoesF (K : PySem.W.Frag) (cl : Nat → Addr) (W : WX) (t : TE) (m : M PV) : Prop :=
  ∀ (F : Fr) (G H : Hp) (σ : L2.St) (S : Sto) (r : Rs PV) (Q : VK), StOk K cl F G H σ S → m S = some r → PostF K cl F W G σ Q r → t σ H Q
def FM (X : Cx) (cl : Nat → Addr) (W : WX) (e : Expr) (m : M PV) : Prop := ∃ t, PE X e t ∧ DoesF X.K cl W t m
section
variable {K : PySem.W.Frag} {cl : Nat → Addr} {F : Fr} {G H : Hp} {σ : L2.St} {S : Sto} {a : Addr}
/-- a fresh object is plain from now on -/
theorem StOk.freezeNew (k : StOk K cl F G H σ S) (hg : G a = none) (h0 : F.H0 a = none) (hR : F.R a = none) (hn : ∀ (i : Nat) (y : PV), S[i]? = some (some (.o y)) → σ[i]? ≠ some (some (V.ref a))) {x : PV} (q : OwnAt K cl G H a x) :
    ∃ G', Same G G' ∧ StOk K cl F G' H σ S ∧ Rep K cl G' (.ref a) x := by
  obtain ⟨o, ho, r⟩ := own_freeze hg q
  have k1 : StOk K cl { F with R := fun b => if b = a then some o else F.R b } G H σ S := by
    refine ⟨k.ex, k.ex0, k.len, k.val, k.own, k.inn, k.dist, k.io, k.ioh, k.iod, k.frame, k.gnew, fun b u e => ?_⟩
    dsimp only at e
    split at e
    · rename_i z
      cases e
      rw [z]
      exact ⟨ho, hg, h0, hn⟩
    · exact k.rsv b u e
  exact ⟨_, same_new hg, (k1.rsvEnd hR).1, r⟩
theorem StOk.newSlot (k : StOk K cl F G H σ S) (h : H a = none) : ∀ (i : Nat) (y : PV), S[i]? = some (some (.o y)) → σ[i]? ≠ some (some (V.ref a)) := fun i y e z => by
  obtain ⟨b, eb, _, _, q⟩ := k.own i y e
  rw [z] at eb
  cases eb
  obtain ⟨o, ho⟩ := q.there
  rw [h] at ho
  cases ho
end
section
variable {X : Cx} {cl : Nat → Addr} {W : WX} {pos : Pos}
theorem em_fm {e : Expr} {m : M PV} (h : FM X cl W e m) : EM X cl W e m := by
  obtain ⟨t, p, d⟩ := h
  refine ⟨t, p, fun F G H σ S r Q st hm hp => d F G H σ S r Q st hm ?_⟩
  cases r with
  | ok x S' =>
    intro a G' H' s k hg h0 hR hn q
    obtain ⟨G2, s2, k2, r2⟩ := k.freezeNew hg h0 hR hn q
    exact hp _ G2 H' (s.trans s2) k2 r2
  | ex c fs S' => exact hp
/-- behind an allocation -/
theorem postF_new {F : Fr} {G H : Hp} {σ : L2.St} {S : Sto} {Q : VK} {x : PV} {p : Addr} {o : HO} (h : PostF X.K cl F W G σ Q (.ok x S)) (st : StOk X.K cl F G H σ S) (hp : H p = none) (q : OwnAt X.K cl G (upd H p o) p x) : Q (.ref p) (upd H p o) :=
  h p G _ (Same.refl _) (st.allocO hp) (st.free hp) (st.free0 hp) (st.rfree hp) (st.newSlot hp) q
def putO (i : Nat) (x : PV) : M Unit := fun S => match S[i]? with
  | some (some (.i _)) => none
  | none => none
  | _ => some (.ok () (S.set i (some (.o x))))
def mSetO (i : Nat) (m : M PV) : M Fl := bnd m fun x => bnd (putO i x) fun _ => ret .nx
theorem doesF_set {i : Nat} {t : TE} {m : M PV} (d : DoesF X.K cl W t m) : DoesS X.K cl W (tAsg t (gName i)) (mSetO i m) := by
  intro F G H σ S r D st hm hp
  unfold mSetO at hm
  rcases bnd_some hm with ⟨x, S1, e1, e2⟩ | ⟨c, fs, S1, e1, e2⟩
  · rcases bnd_some e2 with ⟨u, S2, e3, e4⟩ | ⟨c, fs, S2, e3, _⟩
    · cases e4
      refine d F G H σ S _ _ st e1 ?_
      intro a G' H' s k hg h0 hR hn q
      unfold putO at e3
      split at e3
      · cases e3
      · cases e3
      · rename_i n1 n2
        cases e3
        exact hp _ G' H' s (k.seto hg h0 hR hn q (io_none k n1))
    · unfold putO at e3
      split at e3 <;> cases e3
  · subst e2
    refine d F G H σ S _ _ st e1 ?_
    exact fun dd gs G' H' s k a b => hp dd gs σ G' H' s k a b
theorem sm_setO {i : Nat} {x : Str} {e : Expr} {m : M PV} {pos' : Pos} (hN : X.N.Nodup) (hi : X.N[i]? = some x) (hx : Loc X.env.scope x) (h : FM X cl W e m) (hs : swapsWith e (some (.Name x pos')) pos.line X.env = pure false := by rfl)
    (hf : X.fn x = true ∨ X.env.scope.names.lookup x = some .local := by first | exact .inl rfl | exact .inr rfl | assumption) : SM X cl W (.Assign [.Name x pos'] e pos) (mSetO i m) := by
  obtain ⟨t, p, d⟩ := h
  exact ⟨_, ps_set hN hi hx p hs hf, doesF_set d⟩
/-! displays -/
theorem Does.stepF {α β : Type} {F : Fr} {G H : Hp} {σ : L2.St} {S : Sto} {R1 : Hp → β → α → Prop} {t1 : L2.St → Hp → (β → Hp → Prop) → Prop} {m1 : M α} {k : α → M PV} {r : Rs PV} {Q1 : β → Hp → Prop} {Q2 : VK}
    (h1 : Does X.K cl W R1 t1 m1) (st : StOk X.K cl F G H σ S) (hm : bnd m1 k S = some r) (hp : PostF X.K cl F W G σ Q2 r)
    (hk : ∀ (y : α) (S1 : Sto) (v : β) (G1 H1 : Hp), m1 S = some (.ok y S1) → k y S1 = some r → Same G G1 → StOk X.K cl F G1 H1 σ S1 → R1 G1 v y → PostF X.K cl F W G1 σ Q2 r → Q1 v H1) : t1 σ H Q1 := by
  unfold bnd at hm
  cases e : m1 S with
  | none =>
    rw [e] at hm
    cases hm
  | some r1 =>
    rw [e] at hm
    cases r1 with
    | ok y S1 =>
      refine h1 F G H σ S _ Q1 st e ?_
      intro v G1 H1 s k1 x
      refine hk y S1 v G1 H1 e hm s k1 x ?_
      cases r with
      | ok x S' => exact fun a G2 H2 s2 => hp a G2 H2 (s.trans s2)
      | ex c fs S' => exact ExP.mono s hp
    | ex c fs S1 =>
      have hm' : Rs.ex c fs S1 = r := Option.some.inj hm
      subst hm'
      exact h1 F G H σ S _ Q1 st e hp
theorem fm_lst {es : List Expr} {ms : List (M PV)} (h : AM X cl W es (mArgs ms)) (hl : ms.length ≤ 1000 := by decide) : FM X cl W (.List es pos) (mLst ms) := by
  obtain ⟨t, p, d⟩ := h
  refine ⟨_, pe_lst p, fun F G H σ S rr Q st hm hp => ?_⟩
  refine d.stepF st hm hp fun y S1 v G1 H1 e1 hm1 s1 st1 rv hp1 => ?_
  cases hm1
  have hz : v.length ≤ sizeLine := by
    rw [rv.length, mArgs_len e1]
    exact Nat.le_trans hl (by decide)
  exact ⟨hz, fun p hn => postF_new hp1 st1 hn ⟨_, upd_same, hz, rv⟩⟩
def mDct : M PV := ret (.dct [])
theorem fm_dct : FM X cl W (.Dict [] [] pos) mDct := ⟨_, pe_dnewK, fun F G H σ S rr Q st hm hp => by
  cases hm
  exact fun p hn => postF_new hp st hn ⟨_, upd_same, .nil⟩⟩

/-! ### builtins -/
theorem repL1 {K : PySem.W.Frag} {H : Hp} {vs : List V} {x : PV} (r : RepL K cl H vs [x]) : ∃ v, vs = [v] ∧ Rep K cl H v x := by
  cases r with
  | cons rv rn =>
    cases rn
    exact ⟨_, rfl, rv⟩
theorem repL2 {K : PySem.W.Frag} {H : Hp} {vs : List V} {x y : PV} (r : RepL K cl H vs [x, y]) : ∃ v w, vs = [v, w] ∧ Rep K cl H v x ∧ Rep K cl H w y := by
  cases r with
  | cons rv rn =>
    obtain ⟨w, rfl, rw'⟩ := repL1 rn
    exact ⟨_, w, rfl, rv, rw'⟩
def CallS (K : PySem.W.Frag) (cl : Nat → Addr) (r : List V → Hp → VK → Prop) (g : List PV → Option PV) : Prop :=
  ∀ (G H : Hp) (vs : List V) (xs : List PV) (z : PV) (Q : VK), Same G H → RepL K cl G vs xs → g xs = some z → (∀ w H', Res1 K cl G H z w H' → Q w H') → r vs H Q
def CallSF (K : PySem.W.Frag) (cl : Nat → Addr) (r : List V → Hp → VK → Prop) (g : List PV → Option PV) : Prop :=
  ∀ (G H : Hp) (vs : List V) (xs : List PV) (z : PV) (Q : VK), Same G H → RepL K cl G vs xs → g xs = some z → (∀ p o, H p = none → OwnAt K cl G (upd H p o) p z → Q (.ref p) (upd H p o)) → r vs H Q
theorem CallS.or {r r' : List V → Hp → VK → Prop} {g g' : List PV → Option PV} (h : CallS X.K cl r g) (h' : CallS X.K cl r' g') : CallS X.K cl (fun xs H Q => r xs H Q ∨ r' xs H Q) (fun xs => match g xs with | some z => some z | none => g' xs) := by
  intro G H vs xs z Q e rl hz k
  dsimp only at hz
  split at hz
  · rename_i z' ez
    cases hz
    exact .inl (h G H vs xs _ Q e rl ez k)
  · exact .inr (h' G H vs xs z Q e rl hz k)
def mCB (g : List PV → Option PV) (ms : List (M PV)) : M PV := bnd (mArgs ms) fun xs => lift (g xs)
theorem does_cb {r : List V → Hp → VK → Prop} {g : List PV → Option PV} {t : TA} {ms : List (M PV)} (hr : CallS X.K cl r g) (da : Does X.K cl W (RL X.K cl) t (mArgs ms)) : Does X.K cl W (RV X.K cl) (tCB r t) (mCB g ms) := by
  intro F G H σ S rr Q st hm hp
  refine da.step (R2 := RV X.K cl) st hm hp fun xs S2 vs G2 H2 hm2 s2 st2 rv hp2 => ?_
  obtain ⟨z, ez, rfl⟩ := lift_eq hm2
  exact hr G2 H2 vs xs z Q st2.ex rv ez fun w H' q => hp2.res1 st2 q
theorem doesF_cb {r : List V → Hp → VK → Prop} {g : List PV → Option PV} {t : TA} {ms : List (M PV)} (hr : CallSF X.K cl r g) (da : Does X.K cl W (RL X.K cl) t (mArgs ms)) : DoesF X.K cl W (tCB r t) (mCB g ms) := by
  intro F G H σ S rr Q st hm hp
  refine da.stepF st hm hp fun xs S2 vs G2 H2 e2 hm2 s2 st2 rv hp2 => ?_
  obtain ⟨z, ez, rfl⟩ := lift_eq hm2
  exact hr G2 H2 vs xs z Q st2.ex rv ez fun p o hn q => postF_new hp2 st2 hn q
theorem em_cb {x : Str} {p : Pos} {e : Expr} {es : List Expr} {id : String} {r : List V → Hp → VK → Prop} {g : List PV → Option PV} {ms : List (M PV)} (hc : CallR X (.builtin id) r) (hr : CallS X.K cl r g) (hm : X.mg x = none) (ha : AM X cl W (e :: es) (mArgs ms)) (hg : Gl X x := by rfl) (hv : bootBuiltins x = some (.builtin id) := by rfl) (hn : x ≠ "__name__" := by decide) (hdb : (x == ("__debug__" : Str)) = false := by decide)
    (he : starEach (e :: es) X.env = (false, eval e X.env) :: starEach es X.env := by rfl) (hpl : (backTo pos (starEach es X.env)).any (·.1) = false := by rfl) : EM X cl W (.Call (.Name x p) (e :: es) [] pos) (mCB g ms) := by
  obtain ⟨t, pa, da⟩ := ha
  exact ⟨_, pe_callB hc hg hm hv pa hn hdb he hpl, does_cb hr da⟩
theorem em_ct {x : Str} {p : Pos} {e : Expr} {es : List Expr} {T : String} {r : List V → Hp → VK → Prop} {g : List PV → Option PV} {ms : List (M PV)} (hc : CallR X (.type T) r) (hr : CallS X.K cl r g) (hm : X.mg x = none) (ha : AM X cl W (e :: es) (mArgs ms)) (hg : Gl X x := by rfl) (hv : bootBuiltins x = some (.type T) := by rfl) (hn : x ≠ "__name__" := by decide) (hdb : (x == ("__debug__" : Str)) = false := by decide)
    (he : starEach (e :: es) X.env = (false, eval e X.env) :: starEach es X.env := by rfl) (hpl : (backTo pos (starEach es X.env)).any (·.1) = false := by rfl) : EM X cl W (.Call (.Name x p) (e :: es) [] pos) (mCB g ms) := by
  obtain ⟨t, pa, da⟩ := ha
  exact ⟨_, pe_callTy hc hg hm hv pa hn hdb he hpl, does_cb hr da⟩
theorem fm_cb {x : Str} {p : Pos} {e : Expr} {es : List Expr} {id : String} {r : List V → Hp → VK → Prop} {g : List PV → Option PV} {ms : List (M PV)} (hc : CallR X (.builtin id) r) (hr : CallSF X.K cl r g) (hm : X.mg x = none) (ha : AM X cl W (e :: es) (mArgs ms)) (hg : Gl X x := by rfl) (hv : bootBuiltins x = some (.builtin id) := by rfl) (hn : x ≠ "__name__" := by decide) (hdb : (x == ("__debug__" : Str)) = false := by decide)
    (he : starEach (e :: es) X.env = (false, eval e X.env) :: starEach es X.env := by rfl) (hpl : (backTo pos (starEach es X.env)).any (·.1) = false := by rfl) : FM X cl W (.Call (.Name x p) (e :: es) [] pos) (mCB g ms) := by
  obtain ⟨t, pa, da⟩ := ha
  exact ⟨_, pe_callB hc hg hm hv pa hn hdb he hpl, doesF_cb hr da⟩
theorem fm_ct {x : Str} {p : Pos} {e : Expr} {es : List Expr} {T : String} {r : List V → Hp → VK → Prop} {g : List PV → Option PV} {ms : List (M PV)} (hc : CallR X (.type T) r) (hr : CallSF X.K cl r g) (hm : X.mg x = none) (ha : AM X cl W (e :: es) (mArgs ms)) (hg : Gl X x := by rfl) (hv : bootBuiltins x = some (.type T) := by rfl) (hn : x ≠ "__name__" := by decide) (hdb : (x == ("__debug__" : Str)) = false := by decide)
    (he : starEach (e :: es) X.env = (false, eval e X.env) :: starEach es X.env := by rfl) (hpl : (backTo pos (starEach es X.env)).any (·.1) = false := by rfl) : FM X cl W (.Call (.Name x p) (e :: es) [] pos) (mCB g ms) := by
  obtain ⟨t, pa, da⟩ := ha
  exact ⟨_, pe_callTy hc hg hm hv pa hn hdb he hpl, doesF_cb hr da⟩
/-- one argument, a name: looked at alone, an atom comes -/
def mCBV (g : List PV → Option PV) (i : Nat) : M PV := opk i fun x => g [x]
theorem am_v {e : Expr} {i : Nat} (h : PE X e (tVar i)) (hs : starEach [e] X.env = (false, eval e X.env) :: starEach [] X.env := by rfl) : PA X [e] (tCons (tVar i) tNil) := pa_cons h pa_nil hs
theorem does_cbV {r : List V → Hp → VK → Prop} {g : List PV → Option PV} {i : Nat} (hr : CallS X.K cl r g) : Does X.K cl W (RV X.K cl) (tCB r (tCons (tVar i) tNil)) (mCBV g i) := by
  intro F G H σ S rr Q st hm hp
  obtain ⟨x, z, e1, ez, hz, rfl⟩ := opk_some hm
  obtain ⟨v, G', ev, s1, s2, rv⟩ := pk_view st e1
  exact ⟨v, ev, hr G' H [v] [x] z Q s2 (.one rv) ez fun w H' q => post_atom hp st hz q⟩
theorem em_cbV {x : Str} {p : Pos} {e : Expr} {i : Nat} {id : String} {r : List V → Hp → VK → Prop} {g : List PV → Option PV} (hc : CallR X (.builtin id) r) (hr : CallS X.K cl r g) (hm : X.mg x = none) (he0 : PE X e (tVar i)) (hg : Gl X x := by rfl) (hv : bootBuiltins x = some (.builtin id) := by rfl) (hn : x ≠ "__name__" := by decide) (hdb : (x == ("__debug__" : Str)) = false := by decide)
    (he : starEach [e] X.env = (false, eval e X.env) :: starEach [] X.env := by rfl) (hpl : (backTo pos (starEach [] X.env)).any (·.1) = false := by rfl) : EM X cl W (.Call (.Name x p) [e] [] pos) (mCBV g i) :=
  ⟨_, pe_callB hc hg hm hv (am_v he0 he) hn hdb he hpl, does_cbV hr⟩
/-! len -/
def pLen : List PV → Option PV
  | [.tup xs] => some (.int xs.length)
  | [.lst xs] => some (.int xs.length)
  | [.frl xs] => some (.int xs.length)
  | [.str z] => some (.int z.length)
  | [.dct kvs] => some (.int kvs.length)
  | _ => none
theorem cr_lenA : CallR X (.builtin "len") (fun xs H Q => (∃ x n, xs = [x] ∧ LenV X.K x H n ∧ Q (.int n) H) ∨ ∃ a kvs, xs = [V.ref a] ∧ H a = some (.dK kvs) ∧ Q (.int kvs.length) H) := call_len.or call_lenD
theorem cs_len : CallS X.K cl (fun xs H Q => (∃ x n, xs = [x] ∧ LenV X.K x H n ∧ Q (.int n) H) ∨ ∃ a kvs, xs = [V.ref a] ∧ H a = some (.dK kvs) ∧ Q (.int kvs.length) H) pLen := by
  intro G H vs xs z Q e rl hz k
  unfold pLen at hz
  split at hz <;> try (cases hz; done)
  all_goals
    cases hz
    obtain ⟨v, rfl, rv⟩ := repL1 rl
  · cases rv with
    | tup hs _ hr => exact .inl ⟨_, _, rfl, .inr ⟨_, sqt_mono e hs, rfl⟩, k _ _ (.inl ⟨rfl, by rw [hr.length]; exact .int _⟩)⟩
  · cases rv with
    | lst hs _ hr => exact .inl ⟨_, _, rfl, .inl ⟨_, SqL.of (e _ _ hs), rfl⟩, k _ _ (.inl ⟨rfl, by rw [hr.length]; exact .int _⟩)⟩
  · cases rv with
    | frl hs => exact .inl ⟨_, _, rfl, .inl ⟨_, e.seq hs, rfl⟩, k _ _ (.inl ⟨rfl, by rw [List.length_map]; exact .int _⟩)⟩
  · cases rv with
    | str _ hl => exact .inl ⟨_, _, rfl, ⟨hl, rfl⟩, k _ _ (.inl ⟨rfl, .int _⟩)⟩
  · cases rv with
    | dct hs hr => exact .inr ⟨_, _, rfl, e _ _ hs, k _ _ (.inl ⟨rfl, by rw [hr.length]; exact .int _⟩)⟩
/-! abs, int, sum, any, all, tuple, list -/
def pAbs : List PV → Option PV
  | [.int i] => some (.int (if i < 0 then -i else i))
  | _ => none
theorem cs_abs : CallS X.K cl (fun xs H Q => ∃ i, xs = [.int i] ∧ Q (.int (if i < 0 then -i else i)) H) pAbs := by
  intro G H vs xs z Q e rl hz k
  unfold pAbs at hz
  split at hz <;> try (cases hz; done)
  cases hz
  cases rl with
  | cons rv rn =>
  cases rn
  cases rv
  exact ⟨_, rfl, k _ _ (.inl ⟨rfl, .int _⟩)⟩
def pInt : List PV → Option PV
  | [.int i] => some (.int i)
  | [.bl b] => some (.int (if b then 1 else 0))
  | _ => none
theorem cs_int : CallS X.K cl (fun xs H Q => (∃ i, xs = [V.int i] ∧ Q (.int i) H) ∨ ∃ k, xs = [V.bl k] ∧ Q (.int (if k then 1 else 0)) H) pInt := by
  intro G H vs xs z Q e rl hz k
  unfold pInt at hz
  split at hz <;> try (cases hz; done)
  · cases hz
    cases rl with
    | cons rv rn =>
    cases rn
    cases rv
    exact .inl ⟨_, rfl, k _ _ (.inl ⟨rfl, .int _⟩)⟩
  · cases hz
    cases rl with
    | cons rv rn =>
    cases rn
    cases rv
    exact .inr ⟨_, rfl, k _ _ (.inl ⟨rfl, .int _⟩)⟩
def intsP : List PV → Option (List Int)
  | [] => some []
  | .int i :: xs => (intsP xs).map (i :: ·)
  | _ => none
def blsP : List PV → Option (List Bool)
  | [] => some []
  | .bl i :: xs => (blsP xs).map (i :: ·)
  | _ => none
theorem ints_rep {K : PySem.W.Frag} {H : Hp} : ∀ {xs : List PV} {ns : List Int} {vs : List V}, intsP xs = some ns → RepL K cl H vs xs → vs = ns.map V.int
  | [], ns, vs, h, r => by cases h; cases r; rfl
  | x :: xs, ns, vs, h, r => by
    cases x <;> try (cases h; done)
    unfold intsP at h
    cases e : intsP xs with
    | none => rw [e] at h; cases h
    | some ms =>
      rw [e] at h
      cases h
      cases r with
      | cons rv rs =>
        cases rv
        rw [ints_rep e rs]
        rfl
theorem bls_rep {K : PySem.W.Frag} {H : Hp} : ∀ {xs : List PV} {ns : List Bool} {vs : List V}, blsP xs = some ns → RepL K cl H vs xs → vs = ns.map V.bl
  | [], ns, vs, h, r => by cases h; cases r; rfl
  | x :: xs, ns, vs, h, r => by
    cases x <;> try (cases h; done)
    unfold blsP at h
    cases e : blsP xs with
    | none => rw [e] at h; cases h
    | some ms =>
      rw [e] at h
      cases h
      cases r with
      | cons rv rs =>
        cases rv
        rw [bls_rep e rs]
        rfl
def pSum : List PV → Option PV
  | [.lst xs] => (intsP xs).map fun ns => .int ns.sum
  | _ => none
theorem cs_sum : CallS X.K cl (rSum X.K) pSum := by
  intro G H vs xs z Q e rl hz k
  unfold pSum at hz
  split at hz <;> try (cases hz; done)
  rename_i ys
  cases q : intsP ys with
  | none => rw [q] at hz; cases hz
  | some ns =>
    rw [q] at hz
    cases hz
    cases rl with
    | cons rv rn =>
    cases rn
    cases rv with
    | lst hs _ hr => exact ⟨_, ns, rfl, by rw [← ints_rep q hr]; exact SqL.of (e _ _ hs), k _ _ (.inl ⟨rfl, .int _⟩)⟩
def pAny : List PV → Option PV
  | [.lst xs] => (blsP xs).map fun ns => .bl (ns.any id)
  | _ => none
def pAll : List PV → Option PV
  | [.lst xs] => (blsP xs).map fun ns => .bl (ns.all id)
  | _ => none
theorem cs_any : CallS X.K cl (rAny X.K) pAny := by
  intro G H vs xs z Q e rl hz k
  unfold pAny at hz
  split at hz <;> try (cases hz; done)
  rename_i ys
  cases q : blsP ys with
  | none => rw [q] at hz; cases hz
  | some ns =>
    rw [q] at hz
    cases hz
    cases rl with
    | cons rv rn =>
    cases rn
    cases rv with
    | lst hs _ hr => exact ⟨_, ns, rfl, by rw [← bls_rep q hr]; exact SqL.of (e _ _ hs), k _ _ (.inl ⟨rfl, .bl _⟩)⟩
theorem cs_all : CallS X.K cl (rAll X.K) pAll := by
  intro G H vs xs z Q e rl hz k
  unfold pAll at hz
  split at hz <;> try (cases hz; done)
  rename_i ys
  cases q : blsP ys with
  | none => rw [q] at hz; cases hz
  | some ns =>
    rw [q] at hz
    cases hz
    cases rl with
    | cons rv rn =>
    cases rn
    cases rv with
    | lst hs _ hr => exact ⟨_, ns, rfl, by rw [← bls_rep q hr]; exact SqL.of (e _ _ hs), k _ _ (.inl ⟨rfl, .bl _⟩)⟩
def pTuple : List PV → Option PV
  | [.lst xs] => some (.tup xs)
  | [.tup xs] => some (.tup xs)
  | _ => none
theorem cr_tuple : CallR X (.type "tuple") (rTupleOfF X.K) := cr_tupleF
theorem cs_tuple : CallS X.K cl (rTupleOfF X.K) pTuple := by
  intro G H vs xs z Q e rl hz k
  unfold pTuple at hz
  split at hz <;> try (cases hz; done)
  all_goals
    cases hz
    obtain ⟨v, rfl, rv⟩ := repL1 rl
  · cases rv with
    | lst hs hl hr => exact ⟨_, _, rfl, .inl ⟨SqL.of (e _ _ hs), fun p o ho hn => k _ _ (.inr ⟨p, _, hn, rfl, .tup (tupAt_new ho) hl (hr.mono (same_new (e.free hn)))⟩)⟩⟩
  · cases rv with
    | tup hs hl hr => exact ⟨_, _, rfl, .inr ⟨sqt_mono e hs, k _ _ (.inl ⟨rfl, .tup hs hl hr⟩)⟩⟩
def pList : List PV → Option PV
  | [.lst xs] => some (.lst xs)
  | [.tup xs] => some (.lst xs)
  | _ => none
def rListOf (K : PySem.W.Frag) : List V → Hp → VK → Prop := fun xs H Q => ∃ p ys, xs = [V.ref p] ∧ (SqL K H p ys ∨ SqT K H p ys) ∧ ∀ l, H l = none → Q (.ref l) (upd H l (.lst ys))
theorem cr_list : CallR X (.type "list") (rListOf X.K) := call_list_of
theorem cs_list : CallSF X.K cl (rListOf X.K) pList := by
  intro G H vs xs z Q e rl hz k
  unfold pList at hz
  split at hz <;> try (cases hz; done)
  all_goals
    cases hz
    obtain ⟨v, rfl, rv⟩ := repL1 rl
  · cases rv with
    | lst hs hl hr => exact ⟨_, _, rfl, .inl (SqL.of (e _ _ hs)), fun p hn => k p _ hn ⟨_, upd_same, hl, hr⟩⟩
  · cases rv with
    | tup hs hl hr => exact ⟨_, _, rfl, .inr (sqt_mono e hs), fun p hn => k p _ hn ⟨_, upd_same, hl, hr⟩⟩
end
end Kp
set_option Elab.async false
set_option linter.all false
set_option maxRecDepth 100000
set_option maxHeartbeats 2000000
namespace Kp
open PySem PyProof.Rows L2

section
variable {X : Cx} {cl : Nat → Addr} {W : WX} {pos : Pos}
/-! ### a comprehension's list, to be changed -/
theorem doesF_lc {vs : List Nat} {wi : TI} {tg : TG} {tt : TT} {te : TE} {mi : M (List PV)} {g : PV → Sto → Option Sto} {mt : M Bool} {me : M PV} (hi : DoesI X.K cl W wi mi) (hg : DoesG X.K cl tg g) (hgi : gIn vs tg)
    (ht : Does X.K cl W0 RB tt mt) (he : Does X.K cl W0 (RV X.K cl) te me) : DoesF X.K cl W (tLc wi tg tt te vs) (mLc vs mi g mt me) := by
  intro F G H σ S r Q st hm hp
  unfold mLc at hm
  split at hm <;> try (cases hm; done)
  rename_i ys S1 e1
  split at hm <;> try (cases hm; done)
  rename_i c
  obtain ⟨hlen, hpl⟩ := c
  split at hm <;> try (cases hm; done)
  rename_i zs S2 eg
  cases hm
  refine hi F G H σ S ys S1 _ st e1 fun J G1 H1 s1 st1 hw => ?_
  intro D hD
  have plain : ∀ i ∈ vs, ∀ y, S1[i]? = some (some y) → ∃ x, y = .p x := fun i hi y e => by
    have := List.all_eq_true.mp hpl i hi
    rw [e] at this
    cases y with
    | p x => exact ⟨x, rfl⟩
    | o x => cases this
    | i x => cases this
  have hio : ∀ i ∈ vs, F.io i = none := fun i hi => by
    cases q : F.io i with
    | none => rfl
    | some a =>
      obtain ⟨x, hx⟩ := st1.io i a q
      have := List.all_eq_true.mp hpl i hi
      rw [hx] at this
      cases this
  have fr := st1.rfree hD
  have stw := st1.wiped (σ := σ) (vs := vs) rfl hio
  have hfresh : ∀ (i : Nat) (x : PV), (wipeS S1 vs)[i]? = some (some (.o x)) → (wipe σ vs)[i]? ≠ some (some (V.ref D)) := fun i x e z => by
    obtain ⟨a, ea, _, _, q⟩ := stw.own i x e
    rw [z] at ea
    cases ea
    obtain ⟨o, ho⟩ := q.there
    rw [hD] at ho
    cases ho
  have st2 := stw.rsvNew (o := .lst []) hD hfresh
  -- the turns
  refine ⟨fun i n H' => n + i = ys.length ∧ ∃ (G' : Hp) (S' : Sto) (acc : List V) (done rest : List PV), Same G1 G' ∧ acc.length ≤ i ∧ StOk X.K cl { F with R := fun b => if b = D then some (.lst acc) else F.R b } G' H' (wipe σ vs) S' ∧ RepL X.K cl G' acc done ∧
    done ++ rest = zs ∧ lcGo vs g mt me (ys.drop i) S' = some (rest, S2), ⟨ys.length, Nat.add_zero _, G1, _, [], [], zs, Same.refl _, Nat.zero_le _, st2, .nil, rfl, eg⟩, ?_⟩
  rintro i n H' ⟨hn, G', S', acc, dn, rest, s', hacc, st', rl, hz, hl⟩
  obtain ⟨hgo, hstop⟩ := hw i G' H' s' st'.ex
  cases e : ys[i]? with
  | none =>
    have hle : ys.length ≤ i := List.getElem?_eq_none_iff.mp e
    refine .inl ⟨hstop hle, ?_⟩
    rw [List.drop_eq_nil_of_le hle] at hl
    unfold lcGo at hl
    cases hl
    rw [List.append_nil] at hz
    subst hz
    obtain ⟨st3, hD3, gD, h0D, hnD⟩ := st'.rsvOwn fr
    have hzl : acc.length ≤ sizeLine := by
      rw [rl.length]
      exact Nat.le_trans (lcGo_len eg) hlen
    refine hp _ _ _ (s1.trans s') (StOk.back st1 s' st3 plain hio) gD h0D fr (fun j y q z => ?_) ⟨acc, hD3, hzl, rl⟩
    by_cases zz : j ∈ vs
    · obtain ⟨w, hw'⟩ := plain j zz _ (backS_in zz q)
      cases hw'
    · rw [backS_out zz] at q
      exact hnD j y q (by rw [wipe_out zz]; exact z)
  | some y =>
    obtain ⟨hlt, _⟩ := List.getElem?_eq_some_iff.mp e
    have hd : ys.drop i = y :: ys.drop (i + 1) := by
      rw [List.drop_eq_getElem_cons hlt]
      have : ys[i] = y := by
        have := List.getElem?_eq_getElem hlt
        rw [e] at this
        exact (Option.some.inj this).symm
      rw [this]
    rw [hd] at hl
    unfold lcGo at hl
    obtain ⟨go, hy⟩ := hgo y e
    refine .inr ⟨go, fun H3 => (n - 1) + (i + 1) = ys.length ∧ ∃ (G' : Hp) (S' : Sto) (acc : List V) (done rest : List PV), Same G1 G' ∧ acc.length ≤ i + 1 ∧ StOk X.K cl { F with R := fun b => if b = D then some (.lst acc) else F.R b } G' H3 (wipe σ vs) S' ∧ RepL X.K cl G' acc done ∧
      done ++ rest = zs ∧ lcGo vs g mt me (ys.drop (i + 1)) S' = some (rest, S2), fun H3 q => ⟨n - 1, by omega, q⟩, fun x H3 hx => ?_⟩
    obtain ⟨G3, s3, st3, r3⟩ := st'.res1 (hy x H3 hx)
    cases eg1 : g y S' with
    | none => rw [eg1] at hl; cases hl
    | some Sg =>
      rw [eg1] at hl
      refine hgi x σ H3 (fun σ' H' => H' = H3 ∧ StOk X.K cl { F with R := fun b => if b = D then some (.lst acc) else F.R b } G3 H3 σ' Sg) _ (hg _ G3 H3 _ S' Sg x y _ st3 r3 eg1 fun σ4 st4 => ⟨rfl, st4⟩) fun σ4 H4 hwσ q4 => ⟨hwσ, ?_⟩
      obtain ⟨rfl, st4⟩ := q4
      simp only [] at hl
      cases et : mt Sg with
      | none => rw [et] at hl; cases hl
      | some rt =>
        rw [et] at hl
        cases rt with
        | ex c fs S5 => cases hl
        | ok b S5 =>
          refine ht _ G3 _ σ4 Sg _ _ st4 et ?_
          intro b' G5 H5 s5 st5 hb
          cases hb
          cases b with
          | false =>
            simp only [] at hl
            rw [if_neg Bool.false_ne_true]
            exact ⟨by omega, G5, _, acc, dn, rest, (s'.trans s3).trans s5, Nat.le_succ_of_le hacc, st5.wiped hwσ hio, (rl.mono s3).mono s5, hz, hl⟩
          | true =>
            simp only [] at hl
            rw [if_pos rfl]
            cases ee : me S5 with
            | none => rw [ee] at hl; cases hl
            | some re =>
              rw [ee] at hl
              cases re with
              | ex c fs S6 => cases hl
              | ok z S6 =>
                simp only [] at hl
                cases eg6 : lcGo vs g mt me (ys.drop (i + 1)) (wipeS S6 vs) with
                | none => rw [eg6] at hl; cases hl
                | some q6 =>
                  obtain ⟨zs6, S7⟩ := q6
                  rw [eg6] at hl
                  cases hl
                  refine he _ G5 H5 σ4 S5 _ _ st5 ee ?_
                  intro w G6 H6 s6 st6 rw'
                  have hH := (st6.rsv D (.lst acc) (if_pos rfl)).1
                  refine ⟨acc, hH, by omega, by omega, G6, _, acc ++ [w], dn ++ [z], zs6, ((s'.trans s3).trans s5).trans s6, by rw [List.length_append, List.length_singleton]; omega,
                    StOk.rsvSet (st6.wiped hwσ hio), (((rl.mono s3).mono s5).mono s6).append (.one rw'), by rw [List.append_assoc]; exact hz, eg6⟩

/-- what a comprehension consists of -/
structure LcM (X : Cx) (cl : Nat → Addr) (W : WX) (elt tg iter : Expr) (ifs : List Expr) (scope : Scope) (own : List (Str × Nat)) (mi : M (List PV)) (g : PV → Sto → Option Sto) (mt : M Bool) (me : M PV) : Prop where
  hi : IM X cl W tg iter mi
  ok : BlkOk X.N X.env.scope scope own
  hg : ∃ t, (∀ (s : Shared) (H : Hp) (C : Addr) (cl' : List (Str × Addr)) (fp : List Addr), PG (X.blk s H scope (compEnvC scope cl' C X.env) fp) tg t) ∧ DoesG X.K cl t g ∧ gIn (own.map (·.2)) t
  ht : ∃ tt, (∀ (s : Shared) (H : Hp) (C : Addr) (cl' : List (Str × Addr)) (fp : List Addr), PTs (X.blk s H scope (compEnvC scope cl' C X.env) fp) ifs tt) ∧ Does X.K cl W0 RB tt mt
  he : ∃ te, (∀ (s : Shared) (H : Hp) (C : Addr) (cl' : List (Str × Addr)) (fp : List Addr), PE (X.blk s H scope (compEnvC scope cl' C X.env) fp) elt te) ∧ Does X.K cl W0 (RV X.K cl) te me
section
variable {elt tg iter : Expr} {ifs : List Expr} {scope : Scope} {own : List (Str × Nat)} {mi : M (List PV)} {g : PV → Sto → Option Sto} {mt : M Bool} {me : M PV}
theorem LcM.em (h : LcM X cl W elt tg iter ifs scope own mi g mt me) (hc : X.calm = true) (hN : X.N.Nodup) (hs : ∀ x, foldedSetIterable iter X.env x = pure x := by intro _; rfl) : EM X cl W (.ListComp elt [⟨tg, iter, ifs, 0⟩] scope pos) (mLc (own.map (·.2)) mi g mt me) := by
  obtain ⟨t, pg, dg, gi⟩ := h.hg
  exact em_lc hc hN h.hi h.ok pg dg gi h.ht h.he hs
theorem LcM.fm (h : LcM X cl W elt tg iter ifs scope own mi g mt me) (hc : X.calm = true) (hN : X.N.Nodup) (hs : ∀ x, foldedSetIterable iter X.env x = pure x := by intro _; rfl) : FM X cl W (.ListComp elt [⟨tg, iter, ifs, 0⟩] scope pos) (mLc (own.map (·.2)) mi g mt me) := by
  obtain ⟨t, pg, dg, gi⟩ := h.hg
  obtain ⟨wi, pi, di⟩ := h.hi
  obtain ⟨tt, pt, dt⟩ := h.ht
  obtain ⟨te, pe, de⟩ := h.he
  exact ⟨_, pe_lc hc hN pi h.ok pg pt pe hs, doesF_lc di dg gi dt de⟩
/-- name = [..] -/
theorem LcM.set {i : Nat} {y : Str} {py spos : Pos} (h : LcM X cl W elt tg iter ifs scope own mi g mt me) (hc : X.calm = true) (hN : X.N.Nodup) (hy : X.N[i]? = some y) (hyl : X.env.scope.names.lookup y = some .local)
    (hsw : swapsWith (.ListComp elt [⟨tg, iter, ifs, 0⟩] scope pos) (some (.Name y py)) spos.line X.env = pure true) (hs : ∀ x, foldedSetIterable iter X.env x = pure x := by intro _; rfl) :
    SM X cl W (.Assign [.Name y py] (.ListComp elt [⟨tg, iter, ifs, 0⟩] scope pos) spos) (mSet i (mLc (own.map (·.2)) mi g mt me)) := by
  obtain ⟨t, pg, dg, gi⟩ := h.hg
  obtain ⟨wi, pi, di⟩ := h.hi
  obtain ⟨tt, pt, dt⟩ := h.ht
  obtain ⟨te, pe, de⟩ := h.he
  refine ⟨_, ps_setLc hc hN hy hyl hsw pi h.ok pg pt pe hs, fun F G H σ S r D st hm hp => ?_⟩
  refine (does_lc di dg gi dt de).stepS st hm hp fun y S1 v G1 H1 hm1 s1 st1 rv hp1 => ?_
  obtain ⟨S2, h2, h3⟩ := bnd_put hm1
  cases h3
  exact hp1 _ G1 H1 (Same.refl _) (put_ok st1 h2 rv)
theorem LcM.setO {i : Nat} {y : Str} {py spos : Pos} (h : LcM X cl W elt tg iter ifs scope own mi g mt me) (hc : X.calm = true) (hN : X.N.Nodup) (hy : X.N[i]? = some y) (hyl : X.env.scope.names.lookup y = some .local)
    (hsw : swapsWith (.ListComp elt [⟨tg, iter, ifs, 0⟩] scope pos) (some (.Name y py)) spos.line X.env = pure true) (hs : ∀ x, foldedSetIterable iter X.env x = pure x := by intro _; rfl) :
    SM X cl W (.Assign [.Name y py] (.ListComp elt [⟨tg, iter, ifs, 0⟩] scope pos) spos) (mSetO i (mLc (own.map (·.2)) mi g mt me)) := by
  obtain ⟨t, pg, dg, gi⟩ := h.hg
  obtain ⟨wi, pi, di⟩ := h.hi
  obtain ⟨tt, pt, dt⟩ := h.ht
  obtain ⟨te, pe, de⟩ := h.he
  exact ⟨_, ps_setLc hc hN hy hyl hsw pi h.ok pg pt pe hs, doesF_set (doesF_lc di dg gi dt de)⟩
end

/-! ### ranges, texts -/
def rangeP (lo : Int) (n : Nat) : List PV := (List.range n).map fun i : Nat => PV.int (lo + (i : Int))
theorem rangeP_get {lo : Int} {n i : Nat} : (rangeP lo n)[i]? = if i < n then some (.int (lo + (i : Int))) else none := by
  unfold rangeP
  rw [List.getElem?_map]
  by_cases h : i < n
  · rw [if_pos h, List.getElem?_range h]
    rfl
  · rw [if_neg h, List.getElem?_eq_none (by rw [List.length_range]; omega)]
    rfl
theorem rangeP_len {lo : Int} {n : Nat} : (rangeP lo n).length = n := by
  unfold rangeP
  rw [List.length_map, List.length_range]
theorem walks_range {G : Hp} {lo : Int} {n : Nat} : Walks X.K cl (Itr lo n) G (rangeP lo n) := by
  intro i G2 H2 s1 s2
  refine ⟨fun y e => ?_, fun e => by rw [rangeP_len] at e; exact e⟩
  rw [rangeP_get] at e
  split at e <;> try (cases e; done)
  rename_i hi
  cases e
  refine ⟨hi, fun x H3 hy => ?_⟩
  obtain ⟨e3, rfl⟩ := hy
  exact .inl ⟨e3, .int _⟩
def inR (j : Int) : Bool := decide (-(2 ^ 62) ≤ j) && decide (j < 2 ^ 62)
def mRng1 (m : M PV) : M (List PV) := bnd m fun x => match x with
  | .int j => if inR j = true then ret (rangeP 0 j.toNat) else fun _ => none
  | _ => fun _ => none
def mRng2 (m n : M PV) : M (List PV) := bnd m fun x => bnd n fun y => match x, y with
  | .int i, .int j => if inR i = true ∧ inR j = true then ret (rangeP i (j - i).toNat) else fun _ => none
  | _, _ => fun _ => none
theorem im_rng1 {tg a : Expr} {m : M PV} {p : Pos} (h : EM X cl W a m) (hm : X.mg "range" = none) (hg : Gl X "range" := by rfl) (hs : starEach [a] X.env = [(false, eval a X.env)] := by rfl) : IM X cl W tg (.Call (.Name "range" p) [a] [] pos) (mRng1 m) := by
  obtain ⟨t, pe, d⟩ := h
  refine ⟨_, pi_range1 hg hm (pa_cons pe pa_nil hs) hs, fun F G H σ S ys S' R st hm k => ?_⟩
  rcases bnd_some hm with ⟨x, S1, e1, e2⟩ | ⟨c, fs, S1, _, e2⟩
  · cases x <;> try (cases e2; done)
    dsimp only at e2
    split at e2 <;> try (cases e2; done)
    rename_i j c
    cases e2
    refine d F G H σ S _ _ st e1 fun v G1 H1 s1 st1 rv => ?_
    cases rv
    simp only [inR, Bool.and_eq_true, decide_eq_true_eq] at c
    exact ⟨j, rfl, c.1, c.2, k _ G1 H1 s1 st1 walks_range⟩
  · cases e2
theorem im_rng2 {tg a b : Expr} {m n : M PV} {p : Pos} (h : EM X cl W a m) (h2 : EM X cl W b n) (hm : X.mg "range" = none) (hg : Gl X "range" := by rfl) (hs : starEach [a, b] X.env = [(false, eval a X.env), (false, eval b X.env)] := by rfl) (hs2 : starEach [b] X.env = [(false, eval b X.env)] := by rfl) : IM X cl W tg (.Call (.Name "range" p) [a, b] [] pos) (mRng2 m n) := by
  obtain ⟨t, pe, d⟩ := h
  obtain ⟨u, pf, du⟩ := h2
  refine ⟨_, pi_range2 hg hm (pa_cons pe (pa_cons pf pa_nil hs2) (by rw [hs, hs2])) hs hs2, fun F G H σ S ys S' R st hm k => ?_⟩
  rcases bnd_some hm with ⟨x, S1, e1, e2⟩ | ⟨c, fs, S1, _, e2⟩
  · rcases bnd_some e2 with ⟨y, S2, e3, e4⟩ | ⟨c, fs, S2, _, e4⟩
    · cases x <;> try (cases e4; done)
      cases y <;> try (cases e4; done)
      dsimp only at e4
      split at e4 <;> try (cases e4; done)
      rename_i i j c
      cases e4
      refine d F G H σ S _ _ st e1 fun v G1 H1 s1 st1 rv => ?_
      refine du F G1 H1 σ S1 _ _ st1 e3 fun w G2 H2 s2 st2 rw' => ?_
      cases rv
      cases rw'
      simp only [inR, Bool.and_eq_true, decide_eq_true_eq] at c
      exact ⟨i, j, rfl, ⟨c.1.1, c.1.2, c.2.1, c.2.2⟩, k _ G2 H2 (s1.trans s2) st2 walks_range⟩
    · cases e4
  · cases e2
def charsP (x : Str) : List PV := x.cps.toList.map fun c => .str ⟨#[c]⟩
theorem walks_str {G : Hp} {x : Str} : Walks X.K cl (Its x) G (charsP x) := by
  intro i G2 H2 s1 s2
  refine ⟨fun y e => ?_, fun e => ?_⟩
  · unfold charsP at e
    rw [List.getElem?_map] at e
    cases q : x.cps.toList[i]? with
    | none => rw [q] at e; cases e
    | some c =>
      rw [q] at e
      cases e
      rw [Array.getElem?_toList] at q
      refine ⟨(Array.getElem?_eq_some_iff.mp q).1, fun z H3 hy => ?_⟩
      obtain ⟨e3, c', hc, rfl⟩ := hy
      rw [q] at hc
      cases hc
      exact .inl ⟨e3, .str _ (by show 1 ≤ sizeLine; decide)⟩
  · unfold charsP at e
    rw [List.length_map] at e
    show x.cps.size ≤ i
    rw [← Array.length_toList]
    exact e
def mIterS (m : M PV) : M (List PV) := bnd m fun x => match x with
  | .str z => ret (charsP z)
  | _ => fun _ => none
theorem im_str {tg l : Expr} {m : M PV} (h : EM X cl W l m) : IM X cl W tg l (mIterS m) := by
  obtain ⟨t, p, d⟩ := h
  refine ⟨_, pi_str p, fun F G H σ S ys S' R st hm k => ?_⟩
  rcases bnd_some hm with ⟨x, S1, e1, e2⟩ | ⟨c, fs, S1, _, e2⟩
  · cases x <;> try (cases e2; done)
    cases e2
    refine d F G H σ S _ _ st e1 fun v G1 H1 s1 st1 rv => ?_
    cases rv
    exact ⟨_, rfl, k _ G1 H1 s1 st1 walks_str⟩
  · cases e2
/-- any of the kinds (which one is told by the derivation's value) -/
theorem pi_or {tg e : Expr} {t u : TI} (h : PI X tg e t) (h' : PI X tg e u) : PI X tg e (fun σ H R => t σ H R ∨ u σ H R) :=
  ⟨fun pins s σ H R I q => q.elim (fun q => h.run pins s σ H R I q) fun q => h'.run pins s σ H R I q⟩
def mIterA (m : M PV) : M (List PV) := bnd m fun x => match x with
  | .lst xs => ret xs
  | .frl ns => ret (ns.map PV.int)
  | .tup xs => ret xs
  | .str z => ret (charsP z)
  | _ => fun _ => none
theorem im_any {tg l : Expr} {m : M PV} (h : EM X cl W l m) : IM X cl W tg l (mIterA m) := by
  obtain ⟨t, p, d⟩ := h
  refine ⟨_, pi_or (pi_list p) (pi_or (pi_tup p) (pi_str p)), fun F G H σ S ys S' R st hm k => ?_⟩
  rcases bnd_some hm with ⟨x, S1, e1, e2⟩ | ⟨c, fs, S1, _, e2⟩
  · cases x <;> try (cases e2; done)
    · cases e2
      refine .inr (.inr (d F G H σ S _ _ st e1 fun v G1 H1 s1 st1 rv => ?_))
      cases rv
      exact ⟨_, rfl, k _ G1 H1 s1 st1 walks_str⟩
    · cases e2
      refine .inr (.inl (d F G H σ S _ _ st e1 fun v G1 H1 s1 st1 rv => ?_))
      cases rv with
      | tup hs hz hr => exact ⟨_, rfl, ⟨_, sqt_mono st1.ex hs⟩, k _ G1 H1 s1 st1 (walks_tup hs hr)⟩
    · cases e2
      refine .inl (d F G H σ S _ _ st e1 fun v G1 H1 s1 st1 rv => ?_)
      cases rv with
      | lst hs hz hr => exact ⟨_, rfl, ⟨_, .inl (.inl (st1.ex _ _ hs))⟩, k _ G1 H1 s1 st1 (walks_list (.inl (.inl hs)) hr)⟩
    · cases e2
      refine .inl (d F G H σ S _ _ st e1 fun v G1 H1 s1 st1 rv => ?_)
      cases rv with
      | frl hs => exact ⟨_, rfl, ⟨_, st1.ex.seq hs⟩, k _ G1 H1 s1 st1 (walks_list hs (repL_ints _))⟩
  · cases e2
end
end Kp
set_option Elab.async false
set_option linter.all false
set_option maxRecDepth 100000
set_option maxHeartbeats 2000000
namespace Kp
open PySem PyProof.Rows L2

/-! ### isinstance -/
def tyN : PV → Option String
  | .non => some "NoneType"
  | .bl _ => some "bool"
  | .int _ => some "int"
  | .str _ => some "str"
  | .tup _ => some "tuple"
  | .lst _ => some "list"
  | .dct _ => some "dict"
  | _ => none
/-- what an own class's record says for isinstance -/
structure InsF (K : PySem.W.Frag) (C : Addr) : Prop where
  cl : Cls K C
  ha : PySem.W.findIn K (.ref C) "__class__" = some (some (.builtin "object.__class__"))
  hn : PySem.W.specialIn K (.builtin "object.__class__") "__get__" = some (some (.builtin "getset_descriptor.__get__"))
  htk : PySem.W.takesIn K (.builtin "object.__class__") = some true
  hm : PySem.W.mroIn K C (.type "object") = some true
section
variable {K : PySem.W.Frag} {cl : Nat → Addr} {G H : Hp}
theorem tyx_rep {v : V} {x : PV} {t : String} (e : Same G H) (r : Rep K cl G v x) (h : tyN x = some t) : TyX K H v (.type t) := by
  cases r with
  | non => cases h; exact .base .non
  | bl b => cases h; exact .base (.bl b)
  | int i => cases h; exact .base (.int i)
  | str x _ => cases h; exact .base (.str x)
  | frl _ => cases h
  | tup hs _ _ =>
    cases h
    rcases hs with ⟨o, _, hs⟩ | ⟨o, its, n, h1, h2, _⟩
    · exact .fTuple (e _ _ hs)
    · exact .kTuple h1 h2
  | lst hs _ _ => cases h; exact .base (.lst (e _ _ hs))
  | dct hs _ => cases h; exact .base (.dK (e _ _ hs))
  | obj _ _ => cases h
  | glb _ => cases h
  | xo _ _ => cases h
  | raw _ => cases h
theorem tyx_obj {v : V} {c : Nat} {fs : List (Str × PV)} (e : Same G H) (r : Rep K cl G v (.obj c fs)) (f : InsF K (cl c)) : TyX K H v (.ref (cl c)) := by
  cases r with
  | obj hs _ => exact .base (.ins (e _ _ hs) f.cl f.ha f.hn f.htk f.hm)
end
def tyVl (cl : Nat → Addr) : PV → Option Value
  | .obj c _ => some (.ref (cl c))
  | x => (tyN x).map Value.type
/-- an answer to isinstance(x, u) that is right -/
def IsaOk (K : PySem.W.Frag) (cl : Nat → Addr) (u : Value) (ans : PV → Option Bool) : Prop :=
  ∀ (x : PV) (b : Bool), ans x = some b → ∃ t, tyVl cl x = some t ∧ (∀ (G H : Hp) (v : V), Same G H → Rep K cl G v x → TyX K H v t) ∧ PySem.W.kitOne K t u = some b
/-- of a built-in type; oc tells own classes' instances -/
def ansT (oc : Nat → Option Bool) (T : String) (x : PV) : Option Bool := match x with
  | .obj c _ => oc c
  | x => match tyN x with
    | some t => kitB t T
    | none => none
theorem tyVl_data {cl : Nat → Addr} {x : PV} {t : String} (h : tyN x = some t) : tyVl cl x = some (.type t) := by
  cases x <;> first | (cases h; rfl) | cases h
theorem isa_T {K : PySem.W.Frag} {cl : Nat → Addr} {oc : Nat → Option Bool} {T : String} (h : ∀ c b, oc c = some b → InsF K (cl c) ∧ PySem.W.kitOne K (.ref (cl c)) (.type T) = some b) : IsaOk K cl (.type T) (ansT oc T) := by
  intro x b ha
  by_cases q : ∃ c fs, x = .obj c fs
  · obtain ⟨c, fs, rfl⟩ := q
    obtain ⟨h1, h2⟩ := h c b ha
    exact ⟨_, rfl, fun G H v e r => tyx_obj e r h1, h2⟩
  · have ha' : (match tyN x with | some t => kitB t T | none => none) = some b := by
      unfold ansT at ha
      split at ha
      · rename_i c fs
        exact absurd ⟨c, fs, rfl⟩ q
      · exact ha
    cases et : tyN x with
    | none => rw [et] at ha'; cases ha'
    | some t =>
      rw [et] at ha'
      exact ⟨_, tyVl_data et, fun G H v e r => tyx_rep e r et, kit_ty ha'⟩
def noOc : Nat → Option Bool := fun _ => none
theorem isa_T0 {K : PySem.W.Frag} {cl : Nat → Addr} {T : String} : IsaOk K cl (.type T) (ansT noOc T) := isa_T fun c b h => by cases h
/-- of an own class -/
def ansO (oc : Nat → Option Bool) (x : PV) : Option Bool := match x with
  | .obj c _ => oc c
  | x => match tyN x with
    | some _ => some false
    | none => none
theorem isa_O {K : PySem.W.Frag} {cl : Nat → Addr} {oc : Nat → Option Bool} {C : Addr} (h : ∀ c b, oc c = some b → InsF K (cl c) ∧ PySem.W.kitOne K (.ref (cl c)) (.ref C) = some b) (h2 : ∀ x t, tyN x = some t → PySem.W.kitOne K (.type t) (.ref C) = some false) : IsaOk K cl (.ref C) (ansO oc) := by
  intro x b ha
  by_cases q : ∃ c fs, x = .obj c fs
  · obtain ⟨c, fs, rfl⟩ := q
    obtain ⟨h1, h2⟩ := h c b ha
    exact ⟨_, rfl, fun G H v e r => tyx_obj e r h1, h2⟩
  · have ha' : (match tyN x with | some _ => some false | none => none) = some b := by
      unfold ansO at ha
      split at ha
      · rename_i c fs
        exact absurd ⟨c, fs, rfl⟩ q
      · exact ha
    cases et : tyN x with
    | none => rw [et] at ha'; cases ha'
    | some t =>
      rw [et] at ha'
      cases ha'
      exact ⟨_, tyVl_data et, fun G H v e r => tyx_rep e r et, h2 x t et⟩
/-- a tuple of answers -/
def ansAny : List (PV → Option Bool) → PV → Option Bool
  | [], _ => some false
  | a :: as, x => match a x with
    | some true => some true
    | some false => ansAny as x
    | none => none
section
variable {X : Cx} {cl : Nat → Addr} {W : WX} {pos : Pos}
def mIsa (ans : PV → Option Bool) (m : M PV) : M PV := bnd m fun x => lift ((ans x).map PV.bl)
theorem em_isa {x : Expr} {c : Expr} {cv : V} {u : Value} {ans : PV → Option Bool} {m : M PV} {p : Pos} (h : IsaOk X.K cl u ans) (hv : ClsV cv u) (hm : X.mg "isinstance" = none) (hx : EM X cl W x m) (hc : PE X c (tC cv)) (hg : Gl X "isinstance" := by rfl)
    (he : starEach [x, c] X.env = (false, eval x X.env) :: starEach [c] X.env := by rfl) (he2 : starEach [c] X.env = (false, eval c X.env) :: starEach [] X.env := by rfl) (hpl : (backTo pos (starEach [c] X.env)).any (·.1) = false := by rfl) :
    EM X cl W (.Call (.Name "isinstance" p) [x, c] [] pos) (mIsa ans m) := by
  obtain ⟨t, pe, d⟩ := hx
  refine ⟨_, pe_callB call_isi hg hm PyProof.Rows.boot_isinstance (pa_cons pe (pa_cons hc pa_nil he2) he) (by decide) (by decide) he hpl, fun F G H σ S rr Q st hm hp => ?_⟩
  refine d.step (R2 := RV X.K cl) st hm hp fun y S1 v G1 H1 hm1 s1 st1 rv hp1 => ?_
  obtain ⟨z, ez, rfl⟩ := lift_eq hm1
  cases ea : ans y with
  | none => rw [ea] at ez; cases ez
  | some b =>
    rw [ea] at ez
    cases ez
    obtain ⟨t, _, h1, h2⟩ := h y b ea
    exact ⟨v, cv, t, u, b, rfl, hv, h1 _ _ _ st1.ex rv, h2, hp1 _ _ _ (Same.refl _) st1 (.bl _)⟩
/-- the answers for a tuple of classes -/
inductive IsaL (K : PySem.W.Frag) (cl : Nat → Addr) : List V → List Value → List (PV → Option Bool) → Prop
  | nil : IsaL K cl [] [] []
  | cons {c : V} {u : Value} {ans : PV → Option Bool} {cs : List V} {us : List Value} {as : List (PV → Option Bool)} : ClsV c u → IsaOk K cl u ans → IsaL K cl cs us as → IsaL K cl (c :: cs) (u :: us) (ans :: as)
theorem IsaL.paired {K : PySem.W.Frag} {cl : Nat → Addr} : ∀ {cs : List V} {us : List Value} {as : List (PV → Option Bool)}, IsaL K cl cs us as → Paired ClsV cs us
  | _, _, _, .nil => .nil
  | _, _, _, .cons h _ hs => .cons h hs.paired
theorem IsaL.any {K : PySem.W.Frag} {cl : Nat → Addr} {x : PV} : ∀ {cs : List V} {us : List Value} {as : List (PV → Option Bool)} {b : Bool} {t : Value}, IsaL K cl cs us as → tyVl cl x = some t → ansAny as x = some b → PySem.W.kitAny K t us = some b
  | _, _, _, b, t, .nil, et, h => by cases h; rfl
  | _, _, _, b, t, .cons (ans := ans) (as := as) h1 h2 hs, et, h => by
    unfold ansAny at h
    cases e : ans x with
    | none => rw [e] at h; cases h
    | some b1 =>
      rw [e] at h
      obtain ⟨t', et', _, k⟩ := h2 x b1 e
      rw [et] at et'
      cases et'
      refine kitAny_cons k (fun q => ?_) fun q => ?_
      · subst q
        exact hs.any et h
      · subst q
        cases h
        rfl
theorem IsaL.ty {K : PySem.W.Frag} {cl : Nat → Addr} {x : PV} {cs : List V} {us : List Value} {as : List (PV → Option Bool)} {b : Bool} (h : IsaL K cl cs us as) (hne : as ≠ []) (ha : ansAny as x = some b) : ∃ t, tyVl cl x = some t ∧ (∀ (G H : Hp) (v : V), Same G H → Rep K cl G v x → TyX K H v t) := by
  cases h with
  | nil => exact absurd rfl hne
  | @cons c u ans cs us as h1 h2 hs =>
    unfold ansAny at ha
    cases e : ans x with
    | none => rw [e] at ha; cases ha
    | some b1 =>
      obtain ⟨t', et', k1, _⟩ := h2 x b1 e
      exact ⟨t', et', k1⟩
/-- several constants as arguments -/
def tCs : List V → TA
  | [] => tNil
  | c :: cs => tCons (tC c) (tCs cs)
theorem tCs_run : ∀ {cs : List V} {σ : L2.St} {H : Hp} {Q : List V → Hp → Prop}, Q cs H → tCs cs σ H Q
  | [], σ, H, Q, h => h
  | c :: cs, σ, H, Q, h => tCs_run (cs := cs) (Q := fun vs H' => Q (c :: vs) H') h
theorem em_isaT {x : Expr} {es : List Expr} {cs : List V} {us : List Value} {as : List (PV → Option Bool)} {m : M PV} {p p2 : Pos} {k : Nat} (h : IsaL X.K cl cs us as) (hm : X.mg "isinstance" = none) (hx : EM X cl W x m) (hc : PA X es (tCs cs)) (hz : cs.length ≤ 1000 := by decide) (hne : as ≠ [] := by exact List.cons_ne_nil _ _) (hg : Gl X "isinstance" := by rfl)
    (he : starEach [x, .Tuple es k p2] X.env = (false, eval x X.env) :: starEach [.Tuple es k p2] X.env := by rfl) (he2 : starEach [.Tuple es k p2] X.env = (false, eval (.Tuple es k p2) X.env) :: starEach [] X.env := by rfl) (hpl : (backTo pos (starEach [.Tuple es k p2] X.env)).any (·.1) = false := by rfl) :
    EM X cl W (.Call (.Name "isinstance" p) [x, .Tuple es k p2] [] pos) (mIsa (ansAny as) m) := by
  obtain ⟨t, pe, d⟩ := hx
  refine ⟨_, pe_callB call_isiT hg hm PyProof.Rows.boot_isinstance (pa_cons pe (pa_cons (pe_tup hc) pa_nil he2) he) (by decide) (by decide) he hpl, fun F G H σ S rr Q st hm hp => ?_⟩
  refine d.step (R2 := RV X.K cl) st hm hp fun y S1 v G1 H1 hm1 s1 st1 rv hp1 => ?_
  obtain ⟨z, ez, rfl⟩ := lift_eq hm1
  cases ea : ansAny as y with
  | none => rw [ea] at ez; cases ez
  | some b =>
    rw [ea] at ez
    cases ez
    refine tCs_run ⟨Nat.le_trans hz (by decide), fun p hn => ?_⟩
    obtain ⟨t, et, ht⟩ := h.ty hne ea
    refine ⟨v, p, cs, t, us, b, rfl, upd_same, h.paired, (ht _ _ _ (st1.ex.trans (same_new hn)) rv), h.any et ea, ?_⟩
    exact hp1 _ _ _ (same_new (st1.free hn)) (st1.alloc hn) (.bl _)
end
end Kp
set_option Elab.async false
set_option linter.all false
set_option maxRecDepth 100000
set_option maxHeartbeats 2000000
namespace Kp
open PySem PyProof.Rows L2

/-! ### exceptions of own classes whose __init__ calls an own base's (which is ValueError's) -/
structure BaseX (K : PySem.W.Frag) (B : Addr) : Prop where
  rd : PySem.W.readsIn K B (.type "type") = true
  fc : PySem.W.findCls K (.ref B) (.type "type") "__init__" = some (.val (.builtin "ValueError.__init__"))
  ga : PySem.W.specialIn K (.ref B) "__getattribute__" = some (some (.builtin "type.__getattribute__"))
section
variable {X : Cx} {cl : Nat → Addr} {W : WX} {pos : Pos}
theorem pe_binit {b : Str} {B : Addr} {e : Expr} {es : List Expr} {ta : TA} {p1 p2 : Pos} {pl : Sem Bool} (f : BaseX X.K B) (hg : Gl X b) (hm : X.mg b = some (.ref B)) (ha : PA X (e :: es) ta) (hdb : (b == ("__debug__" : Str)) = false := by decide)
    (hc : eval (.Call (.Attribute (.Name b p1) "__init__" p2) (e :: es) [] pos) X.env = (do
      let ov ← eval (.Name b p1) X.env
      standAt p2.atName
      let (f, first) ← holding [ov] (getMethod ov "__init__" pl)
      callWith pos f first (backTo pos (starEach (e :: es) X.env)) (backToKw pos (keywordEach [] X.env))) := by rfl)
    (he : starEach (e :: es) X.env = (false, eval e X.env) :: starEach es X.env := by rfl) (hpl : (backTo pos (starEach es X.env)).any (·.1) = false := by rfl) :
    PE X (.Call (.Attribute (.Name b p1) "__init__" p2) (e :: es) [] pos) (tVeI X.K ta) := by
  refine ⟨fun pins s σ H Q I h => ?_⟩
  refine PySem.W.methodCall_KW (ld_glob I hg hm ?_ hdb) hc
  refine PySem.W.method_cls I.kIn f.ga (PySem.W.cls_value I.kIn f.rd f.fc (by decide +kernel) ?_)
  show wpAny _ _ (callWith pos (Value.builtin "ValueError.__init__") [] (backTo pos (starEach (e :: es) X.env)) []) _ _ _
  refine PyProof.Rows.callWith_method1 (thn (ha.run pos pins _ σ H _ (I.tok _) h) fun us s1 ⟨vs, H1, I1, r1, a, C, ws, ev, hl, T, ea, q⟩ => ?_) he hpl
  subst ev
  cases r1 with
  | @cons _ u0 _ ur ra rr =>
    obtain rfl : u0 = Value.ref a := ra
    exact oinit_ok T I1 ea (by rw [← Paired.length rr, sizeLine_eq]; omega) fun s' J => ⟨.non, H1, J, rfl, q⟩

/-- the fields that __init__ leaves: field, parameter's slot, in the body's order -/
def fldsOf (fl : List (Str × Nat)) (vs : List V) : List (Str × V) := fl.foldl (fun acc p => (p.1, vs.getD p.2 .non) :: acc) []
def spX (C : Addr) (n : Nat) (fl : List (Str × Nat)) : Sp := fun vs H Q _ => vs.length = n ∧ ∃ (a : Addr) (ws : List V), vs = .ref a :: ws ∧ H a = some (exo a C none) ∧
  ∀ dx, H dx = none → dx ≠ a → Q .non (upd (upd H dx (exd dx (fldsOf fl vs))) a (exo a C (some dx)))
theorem upd_swap {H : Hp} {a b : Addr} {x y z : HO} (h : a ≠ b) : upd (upd (upd H a x) b y) a z = upd (upd H a z) b y := by
  funext c
  by_cases e1 : c = a
  · subst e1
    rw [upd_same, upd_ne h, upd_same]
  · rw [upd_ne e1]
    by_cases e2 : c = b
    · subst e2
      rw [upd_same, upd_same]
    · rw [upd_ne e2, upd_ne e2, upd_ne e1, upd_ne e1]
/-- the body's rows behind the first one: self.f = x, .. -/
def tOsts (K : PySem.W.Frag) : List (Str × Nat) → TS
  | [] => fun D σ H => D.nx σ H
  | [p] => tOst K p.1 (tVar 0) (tVar p.2)
  | p :: ps => tSeq (tOst K p.1 (tVar 0) (tVar p.2)) (tOsts K ps)
theorem osts_run {K : PySem.W.Frag} {C a dx : Addr} {σ : L2.St} {vs : List V} {D : Ends} (T : OexC K C) (h0 : σ[0]? = some (some (.ref a))) (hv : ∀ (j : Nat) (v : V), vs[j]? = some v → σ[j]? = some (some v)) (hne : dx ≠ a) : ∀ {fl : List (Str × Nat)} {fs : List (Str × V)} {H : Hp},
    (∀ p ∈ fl, p.2 < vs.length ∧ PySem.W.findIn K (.ref C) p.1 = some none) → fs.length + fl.length ≤ 900 → H dx = none → D.nx σ (upd (upd H dx (exd dx (fl.foldl (fun acc p => (p.1, vs.getD p.2 .non) :: acc) fs))) a (exo a C (some dx))) → tOsts K fl D σ (upd (upd H dx (exd dx fs)) a (exo a C (some dx)))
  | [], fs, H, _, _, _, k => k
  | p :: ps, fs, H, hf, hl, hd, k => by
    obtain ⟨h1, h2⟩ := hf p List.mem_cons_self
    have ev : vs[p.2]? = some (vs.getD p.2 .non) := by
      rw [List.getD_eq_getElem?_getD, List.getElem?_eq_getElem h1]
      rfl
    have step : ∀ {D' : Ends}, D'.nx σ (upd (upd H dx (exd dx ((p.1, vs.getD p.2 .non) :: fs))) a (exo a C (some dx))) → tOst K p.1 (tVar 0) (tVar p.2) D' σ (upd (upd H dx (exd dx fs)) a (exo a C (some dx))) := fun {D'} q => by
      refine ⟨_, hv _ _ ev, _, h0, a, C, rfl, T, h2, .inr ⟨dx, fs, upd_same, by rw [upd_ne hne, upd_same], by omega, ?_⟩⟩
      rw [upd_swap hne]
      exact q
    have hl' : ((p.1, vs.getD p.2 .non) :: fs).length + ps.length ≤ 900 := by
      simp only [List.length_cons] at hl ⊢
      omega
    cases ps with
    | nil => exact step k
    | cons p2 ps => exact step (osts_run T h0 hv hne (fun q hq => hf q (List.mem_cons_of_mem _ hq)) hl' hd k)
/-- such a class's __init__ keeps its promise -/
theorem fnX {P : Program} {w : World} {K : PySem.W.Frag} {mg : Str → Option Value} {base : Heap} {x qual : Str} {st : Stmt} {f : Addr} {fd : FuncData} {N ps : List Str} {k : Nat} {C : Addr} {p0 : Str × Nat} {fl : List (Str × Nat)} {ta : TA} (F : Fun K x qual st f fd) (S : FnScope N ps (defScope st)) (T : OexC K C)
    (hfl : ∀ p ∈ p0 :: fl, p.2 < ps.length ∧ PySem.W.findIn K (.ref C) p.1 = some none) (hlen : fl.length < 100)
    (hb : ∀ (cdv : Value) (A : Around) (outer : List Env) (s : Shared) (H : Hp) (E : XK), Room k (A.deeper (envOfC qual (defScope st) s.heap.objs.size f cdv)) →
      PSs (cxOf (L2N.CX P w) P w K mg base N qual (defScope st) f cdv A outer s H E) (defBody st) (tSeq (tDrop (tVeI K (tCons (tVar 0) ta))) (tOsts K (p0 :: fl))))
    (hta : ∀ (σ : L2.St) (H : Hp) (Q : List V → Hp → Prop), (∀ ws : List V, ws.length ≤ 10 → Q ws H) → ta σ H Q) :
    FnOk P w K mg base (L2N.CX P w) (k + 1) f fd ps (spX C ps.length (p0 :: fl)) := by
  obtain ⟨oc, od, kV, doc, pm, an, cdv, ct, osl, rfl, lk, hcd⟩ := F.ex
  have hps : ps.length ≤ N.length := by
    have := congrArg List.length S.pre
    rw [List.length_take] at this
    omega
  refine fn_of lk hcd S (fun vs H Q E h => h.1) fun A outer s H vs Q E hr hsp => ?_
  obtain ⟨hl, a, ws, rfl, ha, hq⟩ := hsp
  refine ⟨_, hb cdv A outer s H E hr, ?_⟩
  have hv : ∀ (j : Nat) (v : V), (V.ref a :: ws)[j]? = some v → (L2.start N (V.ref a :: ws))[j]? = some (some v) := fun j v e => start_get e
  have h0 := hv 0 (.ref a) rfl
  refine ⟨_, h0, hta _ _ _ fun us hu => ⟨a, C, us, rfl, by omega, T, ha, ?_⟩⟩
  obtain ⟨h1, h2⟩ := hfl p0 List.mem_cons_self
  have ev : (V.ref a :: ws)[p0.2]? = some ((V.ref a :: ws).getD p0.2 .non) := by
    rw [List.getD_eq_getElem?_getD, List.getElem?_eq_getElem (by rw [hl]; exact h1)]
    rfl
  have first : ∀ {D' : Ends}, (∀ dx, H dx = none → dx ≠ a → D'.nx (L2.start N (V.ref a :: ws)) (upd (upd H dx (exd dx [(p0.1, (V.ref a :: ws).getD p0.2 .non)])) a (exo a C (some dx)))) → tOst K p0.1 (tVar 0) (tVar p0.2) D' (L2.start N (V.ref a :: ws)) H := fun {D'} q =>
    ⟨_, hv _ _ ev, _, h0, a, C, rfl, T, h2, .inl ⟨ha, q⟩⟩
  cases fl with
  | nil => exact first fun dx h3 h4 => hq dx h3 h4
  | cons p1 fl =>
    refine first fun dx h3 h4 => ?_
    refine osts_run T h0 hv h4 (fun q hq' => ?_) ?_ h3 (hq dx h3 h4)
    · obtain ⟨g1, g2⟩ := hfl q (List.mem_cons_of_mem _ hq')
      exact ⟨by rw [hl]; exact g1, g2⟩
    · have e1 : [(p0.1, (V.ref a :: ws).getD p0.2 .non)].length = 1 := rfl
      rw [e1]
      omega
/-- C(e, ..), as an exception -/
theorem pmkN {x : Str} {e : Expr} {es : List Expr} {ta : TA} {p : Pos} {C fI : Addr} {k : Nat} {fd : FuncData} {ps : List Str} {sp : Sp} (T : OexC X.K C) (iC : PySem.W.findIn X.K (.ref C) "__init__" = some (some (.ref fI))) (tI : PySem.W.typeIn X.K (.ref fI) = some (.type "function"))
    (F1 : FnOk X.prog X.w X.K X.mg X.base (L2N.CX X.prog X.w) k fI fd ps sp) (hr : Room (k + 1) X.A) (hb : Binds X.K fd ps []) (tk : L2N.Takes X W) (hg : Gl X x) (hm : X.mg x = some (.ref C)) (ha : PA X (e :: es) ta)
    (hdb : (x == ("__debug__" : Str)) = false := by decide) (he : starEach (e :: es) X.env = (false, eval e X.env) :: starEach es X.env := by rfl) (hpl : (backTo pos (starEach es X.env)).any (·.1) = false := by rfl) :
    L2N.PMk X (.Call (.Name x p) (e :: es) [] pos) (tMkO C sp [] ta) := by
  intro pins s σ H Q I h
  obtain ⟨nm, q0, N0, bs, bm, sn, sub, ab, col, dd, k0, k1, k2, k3, k5, hC, hbm⟩ := T.cls
  refine wpAny_Call_Name_kw (ld_glob I hg hm ?_ hdb)
  refine PySem.W.callWith_K (h₀ := X.base) I.ok.mod.kin T.kC (thn (ha.run pos pins s σ H _ I h) fun us s1 ⟨vs, H1, I1, r1, hz, q1⟩ => ⟨I1.kIn, ?_⟩) he hpl
  show wpAny _ _ (call (.ref C) us) _ _ _
  obtain ⟨hp, g, dr, tk', os⟩ := s1
  let e1 : Addr := hp.objs.size + 1
  have hsz : hp.objs.size ≤ e1 := Nat.le_succ _
  have hn : H1 e1 = none := I1.hok.fresh hsz
  have hq := q1 e1 hn
  rw [List.append_nil] at hq
  let hp2 : Heap := (hp.push (PySem.W.kdv_tup us)).push (PySem.HandSPX.excO C hp.objs.size)
  have kk : ∀ b o, hp.get? b = some o → hp2.get? b = some o := fun b o q => Heap.get?_push_of_some _ (Heap.get?_push_of_some _ q)
  have hget : hp2.get? e1 = some (PySem.HandSPX.excO C hp.objs.size) := by show ((hp.push (PySem.W.kdv_tup us)).push (PySem.HandSPX.excO C hp.objs.size)).get? (hp.objs.size + 1) = _; heap_get
  have I2 : Inv X pins σ (upd H1 e1 (exo e1 C none)) ⟨hp2, g, dr, tk', os⟩ := I1.laid (t' := tk') (a := e1) (o := exo e1 C none) (h' := hp2) kk hsz (exo_ok hget)
  have r2 : Vals (V.ref e1 :: vs) (Value.ref e1 :: us) := .cons rfl r1
  have hl : (Value.ref e1 :: us).length = ps.length := by
    have q := r2.length
    rw [F1.len _ _ _ _ hq] at q
    exact q.symm
  have b2 := hb _ (Value.ref e1 :: us) I2.kIn (by rw [List.append_nil]; exact hl)
  rw [List.append_nil] at b2
  refine wpAny_call (PySem.HandSPX.call_own F.excBase_ValueError (fun Y => PySem.HandSPX.refsVE_contains Y bm hbm) (I1.kIn _ _ hC) (PySem.W.looks_findIn I1.kIn iC) (fun self => PySem.W.bind_fn I1.kIn self tI) (by rw [← Paired.length r1, sizeLine_eq]; omega)
    (codeAny_mono (F1.run _ X.stack _ _ ⟨Value.ref e1 :: us, []⟩ (Value.ref e1 :: us) _ _ (fun _ _ _ => False) (hr.make C us []) (I2.env0.make C us []) b2 r2 hq) fun r s' hq' => ?_))
  cases r with
  | error er =>
    obtain ⟨_, _, _, _, _, _, _, _, _, _, _, _, no⟩ := hq'
    exact no.elim
  | ok fl =>
    cases fl with
    | ret u =>
      obtain ⟨v, H2, os2, bare2, un2, hok2, rv, ev, d, fs, ea, ed, hd1, q2⟩ := hq'
      subst ev
      obtain ⟨h2, g2, d2, t2, os'⟩ := s'
      obtain ⟨t0, G, J, kG, ge, hoe, na⟩ := mk_end0 (d2 := d2) (t2 := t2) I1 hsz kk un2 hok2 os2 bare2 ea ed hd1
      exact ⟨rv, e1, _, _, ⟨G, g2, d2, t2, os'⟩, _, .ref C, some d, rfl, J, kG, ge, hoe, ⟨rfl, rfl, fun vs hv => by cases hv; rfl⟩, rfl, rfl, na, rfl, bare2, raises_own T.exC T.tyC, q2⟩
    | next => exact False.elim hq'
    | brk => exact False.elim hq'
    | cont => exact False.elim hq'
end

/-! ### raise C(e, ..) -/
/-- the fields: field, argument's place (0 the first argument) -/
def fldsP (fl : List (Str × Nat)) (xs : List PV) : List (Str × PV) := fl.foldl (fun acc p => (p.1, xs.getD p.2 .non) :: acc) []
def mRaise (c : Nat) (fl : List (Str × Nat)) (ms : List (M PV)) : M Fl := bnd (mArgs ms) fun xs => fun S => some (.ex c (fldsP fl xs) S)
theorem flds_rep {K : PySem.W.Frag} {cl : Nat → Addr} {H : Hp} {v0 : V} {vs : List V} {xs : List PV} (r : RepL K cl H vs xs) : ∀ {fl : List (Str × Nat)} {as : List (Str × V)} {bs : List (Str × PV)}, (∀ p ∈ fl, p.2 < xs.length) → RepF K cl H as bs →
    RepF K cl H ((fl.map fun p => (p.1, p.2 + 1)).foldl (fun acc p => (p.1, (v0 :: vs).getD p.2 .non) :: acc) as) (fl.foldl (fun acc p => (p.1, xs.getD p.2 .non) :: acc) bs)
  | [], _, _, _, h => h
  | p :: fl, as, bs, hf, h => by
    show RepF K cl H ((fl.map fun p => (p.1, p.2 + 1)).foldl (fun acc p => (p.1, (v0 :: vs).getD p.2 .non) :: acc) ((p.1, (v0 :: vs).getD (p.2 + 1) .non) :: as)) (fl.foldl (fun acc p => (p.1, xs.getD p.2 .non) :: acc) ((p.1, xs.getD p.2 .non) :: bs))
    refine flds_rep (fl := fl) r (fun q hq => hf q (List.mem_cons_of_mem _ hq)) (RepF.cons ?_ h)
    have hlt := hf p List.mem_cons_self
    have ex : xs[p.2]? = some (xs.getD p.2 .non) := by
      rw [List.getD_eq_getElem?_getD, List.getElem?_eq_getElem hlt]
      rfl
    obtain ⟨v, ev, rv⟩ := r.get ex
    show Rep K cl H ((v0 :: vs).getD (p.2 + 1) .non) (xs.getD p.2 .non)
    rw [List.getD_cons_succ, List.getD_eq_getElem?_getD, ev]
    exact rv
section
variable {X : Cx} {cl : Nat → Addr} {W : WX} {pos : Pos}
theorem sm_raise {x : Str} {e : Expr} {es : List Expr} {p p2 : Pos} {c : Nat} {fI : Addr} {k : Nat} {fd : FuncData} {ps : List Str} {fl : List (Str × Nat)} {ms : List (M PV)} (hcm : X.calm = true) (tk : L2N.Takes X W) (T : OexC X.K (cl c)) (iC : PySem.W.findIn X.K (.ref (cl c)) "__init__" = some (some (.ref fI))) (tI : PySem.W.typeIn X.K (.ref fI) = some (.type "function"))
    (F1 : FnOk X.prog X.w X.K X.mg X.base (L2N.CX X.prog X.w) k fI fd ps (spX (cl c) ps.length (fl.map fun p => (p.1, p.2 + 1)))) (hr : Room (k + 1) X.A) (hb : Binds X.K fd ps []) (hm : X.mg x = some (.ref (cl c))) (ha : AM X cl W (e :: es) (mArgs ms)) (hl : ms.length + 1 = ps.length := by rfl) (hz : ms.length ≤ 10 := by decide) (hfl : ∀ p ∈ fl, p.2 < ms.length := by decide)
    (hg : Gl X x := by rfl) (hdb : (x == ("__debug__" : Str)) = false := by decide) (he : starEach (e :: es) X.env = (false, eval e X.env) :: starEach es X.env := by rfl) (hpl : (backTo p2 (starEach es X.env)).any (·.1) = false := by rfl) :
    SM X cl W (.Raise (some (.Call (.Name x p) (e :: es) [] p2)) none pos) (mRaise c fl ms) := by
  obtain ⟨t, pa, d⟩ := ha
  refine ⟨_, L2N.ps_raise hcm tk (pmkN T iC tI F1 hr hb tk hg hm pa hdb he hpl), fun F G H σ S r D st hm1 hp => ?_⟩
  unfold mRaise at hm1
  rcases bnd_some hm1 with ⟨xs, S1, e1, e2⟩ | ⟨c', fs, S1, e1, e2⟩
  · cases e2
    refine d F G H σ S _ _ st e1 fun vs G1 H1 s1 st1 rv => ?_
    have hlv : vs.length = ms.length := by rw [rv.length, mArgs_len e1]
    refine ⟨by omega, fun a hna => ?_⟩
    rw [List.append_nil]
    refine ⟨by rw [List.length_cons, hlv]; exact hl, a, vs, rfl, upd_same, fun dx hdx hne => ?_⟩
    have hdx1 : H1 dx = none := by
      rw [upd_ne hne] at hdx
      exact hdx
    refine ⟨rfl, dx, fldsOf (fl.map fun p => (p.1, p.2 + 1)) (.ref a :: vs), upd_same, by rw [upd_ne hne, upd_same], hdx1, ?_⟩
    have eH : upd (del (upd (upd (upd H1 a (exo a (cl c) none)) dx (exd dx (fldsOf (fl.map fun p => (p.1, p.2 + 1)) (.ref a :: vs)))) a (exo a (cl c) (some dx))) a) dx (.xd (fldsOf (fl.map fun p => (p.1, p.2 + 1)) (.ref a :: vs))) = upd H1 dx (.xd (fldsOf (fl.map fun p => (p.1, p.2 + 1)) (.ref a :: vs))) := by
      funext b
      by_cases e1 : b = dx
      · rw [e1, upd_same, upd_same]
      · rw [upd_ne e1, upd_ne e1]
        by_cases e2 : b = a
        · rw [e2, del_same, hna]
        · rw [del_ne e2, upd_ne e2, upd_ne e1, upd_ne e2]
    rw [eH]
    exact hp dx _ σ G1 _ s1 (st1.allocO hdx1) ⟨upd_same, st1.free0 hdx1, st1.rfree hdx1⟩ (flds_rep (v0 := .ref a) rv (fun p hp' => by rw [mArgs_len e1]; exact hfl p hp') .nil)
  · subst e2
    refine d F G H σ S _ _ st e1 fun dd gs G' H' s k' a b => ?_
    exact hp dd gs σ G' H' s k' a b

/-! ### self.f = e -/
def putFP (f : Str) (v : PV) : List (Str × PV) → List (Str × PV)
  | [] => [(f, v)]
  | (g, x) :: r => if g = f then (g, v) :: r else (g, x) :: putFP f v r
theorem repF_put {K : PySem.W.Frag} {H : Hp} {f : Str} {v : V} {x : PV} (rx : Rep K cl H v x) : ∀ {gs : List (Str × V)} {fs : List (Str × PV)}, RepF K cl H gs fs → RepF K cl H (putF f v gs) (putFP f x fs)
  | _, _, .nil => .cons rx .nil
  | _, _, .cons (f := g) h hs => by
    unfold putF putFP
    split
    · exact .cons rx hs
    · exact .cons h (repF_put rx hs)
def pSetF (c : Nat) (f : Str) (v : PV) : PV → Option PV
  | .obj d fs => if d = c ∧ fs.length < 100 then some (.obj d (putFP f v fs)) else none
  | _ => none
def mSetF (i c : Nat) (f : Str) (me : M PV) : M Fl := bnd me fun v => bnd (updO i (pSetF c f v)) fun _ => ret .nx
theorem sm_setF {o e : Expr} {i c : Nat} {f : Str} {me : M PV} {pos' : Pos} (hc : Cls X.K (cl c)) (hn : NoAttr X.K (cl c) f) (ho : PE X o (tVar i)) (he : EM X cl W e me) (hs : swapsWith e (some (.Attribute o f pos')) pos.line X.env = pure false := by rfl) :
    SM X cl W (.Assign [.Attribute o f pos'] e pos) (mSetF i c f me) := by
  obtain ⟨te, pe, de⟩ := he
  refine ⟨_, ps_fld ho pe hs, fun F G H σ S r D st hm hp => ?_⟩
  refine de.stepS st hm hp fun v S1 wv G1 H1 hm1 s1 st1 rv hp1 => ?_
  rcases bnd_some hm1 with ⟨u, S3, e3, e4⟩ | ⟨c', fs, S3, e3, _⟩
  · cases e4
    obtain ⟨a, x, x', S', e5, ea, ga, q, ef, fin⟩ := updO_use st1 e3
    cases e5
    refine ⟨_, ea, ?_⟩
    unfold pSetF at ef
    cases x <;> try (cases ef; done)
    dsimp only at ef
    split at ef <;> try (cases ef; done)
    rename_i cc
    obtain ⟨rfl, hlen⟩ := cc
    cases ef
    obtain ⟨dx, gs, eh, rf⟩ := q
    exact ⟨a, _, dx, gs, rfl, eh, hc, hn, by rw [rf.length]; omega, hp1 σ G1 _ (Same.refl _) (fin _ ⟨dx, _, upd_same, repF_put rv rf⟩)⟩
  · obtain ⟨a, x, x', S', e5, _⟩ := updO_use st1 e3
    cases e5
/-- x.f, x a name -/
def mFldV (i c : Nat) (f : Str) : M PV := fun S => match pk i S with
  | some x => match pFld c f x with
    | some z => some (.ok z S)
    | none => none
  | none => none
theorem em_fldV {e : Expr} {i c : Nat} {f : Str} (he : PE X e (tVar i)) (hc : Cls X.K (cl c)) (hn : NoAttr X.K (cl c) f) (hb : attributeBase e f X.env (eval e X.env) = eval e X.env := by rfl) : EM X cl W (.Attribute e f pos) (mFldV i c f) := by
  refine ⟨_, pe_fld he hb, fun F G H σ S rr Q st hm hp => ?_⟩
  unfold mFldV at hm
  split at hm <;> try (cases hm; done)
  rename_i x e1
  split at hm <;> try (cases hm; done)
  rename_i z ez
  cases hm
  unfold pFld at ez
  cases x <;> try (cases ez; done)
  dsimp only at ez
  split at ez <;> try (cases ez; done)
  rename_i q
  subst q
  have own : ∀ {a : Addr}, σ[i]? = some (some (.ref a)) → OwnAt X.K cl G H a (.obj _ _) → tFld X.K (tVar i) f σ H Q := fun {a} ea q => by
    obtain ⟨dx, gs, eh, rf⟩ := q
    obtain ⟨w, ew, rw'⟩ := rf.lookup ez
    exact ⟨_, ea, _, _, _, _, w, rfl, eh, hc, hn, ew, hp _ _ _ (Same.refl _) st rw'⟩
  unfold pk at e1
  split at e1
  · rename_i y' e
    cases e1
    obtain ⟨v', ev', rv⟩ := st.val i _ e
    cases rv with
    | obj hs hr =>
      obtain ⟨w, ew, rw'⟩ := hr.lookup ez
      exact ⟨_, ev', _, _, _, _, w, rfl, st.ex _ _ hs, hc, hn, ew, hp _ _ _ (Same.refl _) st rw'⟩
  · rename_i y' e
    cases e1
    obtain ⟨a, ea, ga, h0, q⟩ := st.own i _ e
    exact own ea q
  · rename_i y' e
    cases e1
    obtain ⟨a, ea, ga, h0, q⟩ := st.inn i _ e
    exact own ea q
  · cases e1
end
end Kp
set_option Elab.async false
set_option linter.all false
set_option maxRecDepth 100000
set_option maxHeartbeats 2000000
namespace Kp
open PySem PyProof.Rows L2

/-! ### one reading for all the contexts of a block -/
section
variable {X : Cx} {cl : Nat → Addr} {scope : Scope}
theorem takes_W0 {X : Cx} : L2N.Takes X W0 := fun u s' ⟨a, B, sI, pins, σ, H, cls, d, e, I, nb, up, sky, na, os, ag, w⟩ => w.elim
theorem blk_em {elt : Expr} {me : M PV} (h : ∀ (s : Shared) (H : Hp) (C : Addr) (cl' : List (Str × Addr)) (fp : List Addr), EM (X.blk s H scope (compEnvC scope cl' C X.env) fp) cl W0 elt me) :
    ∃ te, (∀ (s : Shared) (H : Hp) (C : Addr) (cl' : List (Str × Addr)) (fp : List Addr), PE (X.blk s H scope (compEnvC scope cl' C X.env) fp) elt te) ∧ Does X.K cl W0 (RV X.K cl) te me := by
  refine ⟨fun σ H Q => ∀ (s : Shared) (H0 : Hp) (C : Addr) (cl' : List (Str × Addr)) (fp : List Addr), Classical.choose (h s H0 C cl' fp) σ H Q, fun s H0 C cl' fp => ?_, fun F G H σ S r Q st hm hp s H0 C cl' fp => ?_⟩
  · exact ⟨fun pins s2 σ H Q I q => (Classical.choose_spec (h s H0 C cl' fp)).1.run pins s2 σ H Q I (q s H0 C cl' fp)⟩
  · exact (Classical.choose_spec (h s H0 C cl' fp)).2 F G H σ S r Q st hm hp
theorem blk_ts {ifs : List Expr} {mt : M Bool} (h : ∀ (s : Shared) (H : Hp) (C : Addr) (cl' : List (Str × Addr)) (fp : List Addr), TsM (X.blk s H scope (compEnvC scope cl' C X.env) fp) cl W0 ifs mt) :
    ∃ tt, (∀ (s : Shared) (H : Hp) (C : Addr) (cl' : List (Str × Addr)) (fp : List Addr), PTs (X.blk s H scope (compEnvC scope cl' C X.env) fp) ifs tt) ∧ Does X.K cl W0 RB tt mt := by
  refine ⟨fun σ H Q => ∀ (s : Shared) (H0 : Hp) (C : Addr) (cl' : List (Str × Addr)) (fp : List Addr), Classical.choose (h s H0 C cl' fp) σ H Q, fun s H0 C cl' fp => ?_, fun F G H σ S r Q st hm hp s H0 C cl' fp => ?_⟩
  · exact ⟨fun pins s2 σ H Q I q => (Classical.choose_spec (h s H0 C cl' fp)).1.run pins s2 σ H Q I (q s H0 C cl' fp)⟩
  · exact (Classical.choose_spec (h s H0 C cl' fp)).2 F G H σ S r Q st hm hp
theorem blk_tg {tg : Expr} {t : TG} {g : PV → Sto → Option Sto} {vs : List Nat} (h : ∀ (s : Shared) (H : Hp) (C : Addr) (cl' : List (Str × Addr)) (fp : List Addr), PG (X.blk s H scope (compEnvC scope cl' C X.env) fp) tg t) (d : DoesG X.K cl t g) (gi : gInA vs t) :
    ∃ t, (∀ (s : Shared) (H : Hp) (C : Addr) (cl' : List (Str × Addr)) (fp : List Addr), PG (X.blk s H scope (compEnvC scope cl' C X.env) fp) tg t) ∧ DoesG X.K cl t g ∧ gIn vs t := ⟨t, h, d, gin_of gi⟩
end
section
variable {X : Cx} {cl : Nat → Addr} {W : WX} {pos : Pos}
theorem em_v (i : Nat) {x : Str} (hN : X.N[i]? = some x := by rfl) (hv : Vis X.env.scope x := by first | exact Or.inl rfl | exact Or.inr (Or.inl rfl) | exact Or.inr (Or.inr rfl)) (hd : (x == ("__debug__" : Str)) = false := by decide)
    (hcd : (x == ("__classdict__" : Str)) = false := by decide) : EM X cl W (.Name x pos) (mVar i) := em_pv (pe_var hN hv hd hcd)
/-- truth of a slot's content, looked at alone -/
def mTruV (i : Nat) : M Bool := fun S => match pk i S with
  | some x => match truP x with
    | some b => some (.ok b S)
    | none => none
  | none => none
theorem tm_truV {e : Expr} {i : Nat} (h : PE X e (tVar i)) (he : ∀ whole, isTrue e X.env whole = (do let v ← whole; standAt e.pos; holding [v] (truthy v)) := by intro _; rfl) : TM X cl W e (mTruV i) := by
  refine ⟨_, pt_truth h he, fun F G H σ S rr Q st hm hp => ?_⟩
  unfold mTruV at hm
  split at hm <;> try (cases hm; done)
  rename_i x e1
  split at hm <;> try (cases hm; done)
  rename_i b eb
  cases hm
  obtain ⟨v, G', ev, s1, s2, rv⟩ := pk_view st e1
  exact ⟨v, ev, b, tru_rep (rv.mono s2) eb, hp _ _ _ (Same.refl _) st rfl⟩
end
end Kp
set_option Elab.async false
set_option linter.all false
set_option maxRecDepth 100000
set_option maxHeartbeats 2000000
namespace Kp
open PySem PyProof.Rows L2

theorem hu64 {k : Nat} {A : Around} (r : Room k A) : A.units + 64 < cLine := by have := r.un; omega
/-! ### defs that give a fresh object to be changed -/
def spO (K : PySem.W.Frag) (cl : Nat → Addr) (n : Nat) (f : List PV → Option RO) : Sp := fun vs H Q E => vs.length = n ∧ ∃ (G : Hp) (xs : List PV) (r : RO), Same G H ∧ RepL K cl G vs xs ∧ f xs = some r ∧
  match r with
  | .ret y => ∀ (a : Addr) (G' H' : Hp), Grown G H G' H' → G' a = none → H a = none → OwnAt K cl G' H' a y → Q (.ref a) H'
  | .exc c fs => ∀ (d : Addr) (gs : List (Str × V)) (G' H' : Hp), Grown G H G' H' → (H' d = some (.xd gs) ∧ H d = none) → RepF K cl G' gs fs → E (.ref (cl c)) (some d) H'
def endV : Option (Rs PV) → Option RO
  | some (.ok y _) => some (.ret y)
  | some (.ex c fs _) => some (.exc c fs)
  | none => none
def runO (N : Nat) (m : M PV) (xs : List PV) : Option RO := endV (m (stoP N xs))
theorem free0_none {K : PySem.W.Frag} {cl : Nat → Addr} {F : Fr} {G H : Hp} {σ : L2.St} {S : Sto} {a : Addr} (h : F.H0 a = none) : F.H0 a = none := h
section
variable {P : Program} {w : World} {K : PySem.W.Frag} {mg : Str → Option Value} {base : Heap} {cl : Nat → Addr}
theorem fnO {x qual : Str} {st : Stmt} {f : Addr} {fd : FuncData} {N ps : List Str} {k : Nat} {m : M PV} {e : Expr} {pos : Pos} (F : Fun K x qual st f fd) (S : FnScope N ps (defScope st)) (hbody : defBody st = [.Return (some e) pos])
    (hb : ∀ (cdv : Value) (A : Around) (outer : List Env) (s : Shared) (H : Hp) (E : XK), Room k (A.deeper (envOfC qual (defScope st) s.heap.objs.size f cdv)) →
      FM (cxOf (L2N.CX P w) P w K mg base N qual (defScope st) f cdv A outer s H E) cl (fun c d _ H' => E c d H') e m) :
    FnOk P w K mg base (L2N.CX P w) (k + 1) f fd ps (spO K cl ps.length (runO N.length m)) := by
  obtain ⟨oc, od, kV, doc, pm, an, cdv, ct, osl, rfl, lk, hcd⟩ := F.ex
  have hps : ps.length ≤ N.length := by
    have := congrArg List.length S.pre
    rw [List.length_take] at this
    omega
  refine fn_of lk hcd S (fun vs H Q E h => h.1) fun A outer s H vs Q E hr hsp => ?_
  obtain ⟨t, pt, dt⟩ := hb cdv A outer s H E hr
  obtain ⟨hl, G, xs, r, eG, rl, hf, hq⟩ := hsp
  rw [hbody]
  refine ⟨_, pss_one (ps_ret pt), ?_⟩
  have st0 := stOk_startP (N := N) eG rl (by rw [hl]; exact hps)
  unfold runO endV at hf
  have gr : ∀ {G' H' : Hp} {σ' : L2.St} {S' : Sto}, Same G G' → StOk K cl ⟨G, H, fun _ => none, fun _ => none⟩ G' H' σ' S' → Grown G H G' H' := fun {G' H' σ' S'} s k => ⟨s, k.ex, fun a o h => k.frame a o h (fun i z => by cases z), k.gnew⟩
  split at hf
  · rename_i y S' em
    cases hf
    exact dt _ G H _ _ _ _ st0 em fun a G' H' s' k' hg h0 hR hn q => hq a G' H' (gr s' k') hg h0 q
  · rename_i c fs S' em
    cases hf
    exact dt _ G H _ _ _ _ st0 em fun d gs G' H' s' k' a b => hq d gs G' H' (gr s' k') ⟨a.1, a.2.1⟩ b
  · cases hf
/-- nothing is promised -/
theorem fn_none {CX : CXT} {k : Nat} {f : Addr} {fd : FuncData} {ps : List Str} {n : Nat} : FnOk P w K mg base CX k f fd ps (spP K cl n fun _ => none) :=
  ⟨(fun vs H Q E h => by obtain ⟨_, _, _, _, _, _, z, _⟩ := h; cases z), (fun A outer s H args us vs Q E hr he hb hv h => by obtain ⟨_, _, _, _, _, _, z, _⟩ := h; cases z)⟩
end
section
variable {X : Cx} {cl : Nat → Addr} {W : WX} {pos : Pos}
theorem fm_call {x : Str} {k : Nat} {f : Addr} {fd : FuncData} {ps : List Str} {n : Nat} {g : List PV → Option RO} {p : Pos} {e : Expr} {es : List Expr} {ms : List (M PV)} (tk : L2N.Takes X W) (F : FnOk X.prog X.w X.K X.mg X.base (L2N.CX X.prog X.w) k f fd ps (spO X.K cl n g)) (hr : Room k X.A) (hm : X.mg x = some (.ref f)) (hk : PySem.W.keepIn X.K (.ref f) = true)
    (hb : Binds X.K fd ps []) (ha : AM X cl W (e :: es) (mArgs ms)) (hl : ms.length = n := by rfl) (hg : Gl X x := by rfl) (hdb : (x == ("__debug__" : Str)) = false := by decide) (he : starEach (e :: es) X.env = (false, eval e X.env) :: starEach es X.env := by rfl) (hpl : (backTo pos (starEach es X.env)).any (·.1) = false := by rfl) :
    FM X cl W (.Call (.Name x p) (e :: es) [] pos) (mCall g ms) := by
  obtain ⟨t, pa, d⟩ := ha
  refine ⟨_, pe_callS (E := WE W) F hr hg hm hk hb (fun σ => L2N.passAt tk σ) pa hdb he hpl, fun F G H σ S rr Q st hm hp => ?_⟩
  refine d.stepF st hm hp fun y S1 v G1 H1 e1 hm1 s1 st1 rv hp1 => ?_
  refine ⟨by rw [rv.length, mArgs_len e1]; exact hl, G1, y, ?_⟩
  cases e : g y with
  | none => rw [e] at hm1; cases hm1
  | some ro =>
    rw [e] at hm1
    refine ⟨ro, st1.ex, rv, rfl, ?_⟩
    cases ro with
    | ret z =>
      cases hm1
      exact fun a G' H' g hg h0 q => hp1 a G' H' g.g (st1.grown g) hg (st1.free0 h0) (st1.rfree h0) (st1.newSlot h0) q
    | exc c fs =>
      cases hm1
      exact fun d gs G' H' g a b => hp1 d gs G' H' g.g (st1.grown g) ⟨a.1, st1.free0 a.2, st1.rfree a.2⟩ b
end
end Kp
set_option Elab.async false
set_option linter.all false
set_option maxRecDepth 100000
set_option maxHeartbeats 2000000
namespace Kp
open PySem PyProof.Rows L2

/-! ### calls that raise nothing, by operators and built-in functions -/
abbrev EN : XK := fun _ _ _ => False
theorem spP_quiet {K : PySem.W.Frag} {cl : Nat → Addr} {F : Fr} {G H : Hp} {σ : L2.St} {S : Sto} {n : Nat} {f : List PV → Option RO} {vs : List V} {xs : List PV} {y : PV} {Q : VK} (st : StOk K cl F G H σ S) (rl : RepL K cl G vs xs) (hl : vs.length = n) (hf : f xs = some (.ret y))
    (k : ∀ (v : V) (G' H' : Hp), Grown G H G' H' → Rep K cl G' v y → Q v H') : spP K cl n f vs H Q EN :=
  ⟨hl, G, xs, .ret y, st.ex, rl, hf, fun v G' H' g r => k v G' H' g r⟩
theorem spP_quiet' {K : PySem.W.Frag} {cl : Nat → Addr} {G H : Hp} {n : Nat} {f : List PV → Option RO} {vs : List V} {xs : List PV} {y : PV} {Q : VK} (st : Same G H) (rl : RepL K cl G vs xs) (hl : vs.length = n) (hf : f xs = some (.ret y))
    (k : ∀ (v : V) (G' H' : Hp), Grown G H G' H' → Rep K cl G' v y → Q v H') : spP K cl n f vs H Q EN :=
  ⟨hl, G, xs, .ret y, st, rl, hf, fun v G' H' g r => k v G' H' g r⟩
section
variable {X : Cx}
/-- the call of an own def that raises nothing, wherever it is made -/
theorem run_q {k : Nat} {f : Addr} {fd : FuncData} {ps : List Str} {sp : Sp} {A' : Around} {pins : List (Addr × Obj)} {σ : L2.St} {H : Hp} {s : Shared} {Q : VK} {us : List Value} {vs : List V} {E' : Value → Shared → Prop} (hA : A'.frames = X.A.frames) (hr : Room k A')
    (F : FnOk X.prog X.w X.K X.mg X.base (L2N.CX X.prog X.w) k f fd ps sp) (hb : Binds X.K fd ps []) (I : Inv X pins σ H s) (r : Vals vs us) (h : sp vs H Q EN) : wpAny (model X.prog X.w) A' (call (.ref f) us) (EP X pins σ Q) E' s := by
  have hl : us.length = ps.length := by rw [← r.length]; exact F.len _ _ _ _ h
  have b := hb s us I.kIn (by rw [List.append_nil]; exact hl)
  rw [List.append_nil] at b
  have e0 : Env0 X.prog X.w X.K X.mg X.base A' X.stack s H := by
    have e := I.env0
    exact ⟨by rw [hA]; exact e.frames, e.mod, e.bs, e.bsz, e.funs, e.frf, e.hok, e.bare⟩
  refine wpAny_call (codeAny_mono (F.run A' X.stack s H ⟨us, []⟩ us vs Q EN hr e0 b r h) fun q s' hq => ?_)
  cases q with
  | error e =>
    obtain ⟨_, _, _, _, _, _, _, _, _, _, _, _, no⟩ := hq
    exact no.elim
  | ok fl =>
    cases fl with
    | ret u => exact I.after hq
    | next => exact False.elim hq
    | brk => exact False.elim hq
    | cont => exact False.elim hq
theorem ins_inst {pins : List (Addr × Obj)} {σ : L2.St} {H : Hp} {s : Shared} {a C dx : Addr} {fs : List (Str × V)} (I : Inv X pins σ H s) (e : H a = some (.ins C dx fs)) : ∃ ox od, PySem.W.InstAt s.heap a ox C (some od) ∧ ox.data = .plain := by
  obtain ⟨mA, J, _⟩ := ins_get I.hok e
  obtain ⟨od, J, _⟩ := J.look
  exact ⟨_, od, J, rfl⟩

/-! ### len(o) -/
def rLenO (C : Addr) (sp : Sp) : List V → Hp → VK → Prop := fun xs H Q => ∃ a dx fs, xs = [.ref a] ∧ H a = some (.ins C dx fs) ∧ sp [.ref a] H (fun v H' => ∃ n : Int, v = .int n ∧ (0 ≤ n ∧ n < 2 ^ 63) ∧ Q (.int n) H') EN
theorem call_lenO {k : Nat} {f C : Addr} {fd : FuncData} {ps : List Str} {sp : Sp} (hs : PySem.W.findIn X.K (.ref C) "__len__" = some (some (.ref f))) (hf : PySem.W.isFn X.K (.ref f) = true) (hr : Room (k + 1) X.A) (F : FnOk X.prog X.w X.K X.mg X.base (L2N.CX X.prog X.w) k f fd ps sp) (hb : Binds X.K fd ps []) :
    CallR X (.builtin "len") (rLenO C sp) := by
  intro pins s σ H xs us Q I r h
  obtain ⟨a, dx, fs, rfl, e, h⟩ := h
  obtain ⟨u, rfl, ru⟩ := vals1 r
  obtain rfl : u = Value.ref a := ru
  obtain ⟨ox, od, J, _⟩ := ins_inst I e
  obtain ⟨m, fr⟩ := I.fr
  refine PySem.W.len_K fr I.ok.mod.kin J hs hf (thn (run_q (vs := [V.ref a]) (us := [Value.ref a]) rfl hr.in1 F hb I (.cons rfl .nil) h) fun w s' ⟨v, H', I', rv, n, ev, hn, q⟩ => ?_)
  subst ev
  obtain ⟨t, rfl⟩ := rv
  exact ⟨hn, .int n, H', I'.tok _, ⟨_, rfl⟩, q⟩

/-! ### y in o -/
def rInO (C : Addr) (sp : Sp) (n : Bool) : R2 := fun y x H Q => ∃ a dx fs, x = .ref a ∧ H a = some (.ins C dx fs) ∧ sp [.ref a, y] H (fun v H' => ∃ b : Bool, v = .bl b ∧ Q (.bl (if n then !b else b)) H') EN
theorem op_inO {k : Nat} {f C : Addr} {fd : FuncData} {ps : List Str} {sp : Sp} (hs : PySem.W.findIn X.K (.ref C) "__contains__" = some (some (.ref f))) (hf : PySem.W.isFn X.K (.ref f) = true) (hr : Room k X.A) (F : FnOk X.prog X.w X.K X.mg X.base (L2N.CX X.prog X.w) k f fd ps sp) (hb : Binds X.K fd ps []) :
    OpR X (compareOp .In) (rInO C sp false) := by
  intro pins s σ H y x u v Q I ry rx h
  obtain ⟨a, dx, fs, rfl, e, h⟩ := h
  obtain rfl : v = Value.ref a := rx
  obtain ⟨ox, od, J, _⟩ := ins_inst I e
  obtain ⟨m, fr⟩ := I.fr
  refine PySem.W.in_K fr I.ok.mod.kin J hs hf (thn (run_q (vs := [V.ref a, y]) (us := [Value.ref a, u]) rfl hr F hb I (.cons rfl (.cons ry .nil)) h) fun w s' ⟨v, H', I', rv, b, ev, q⟩ => ?_)
  subst ev
  cases rv
  exact wpAny_truthy_bool ⟨.bl b, H', I', rfl, q⟩

/-! ### o == y -/
def rEqO (C : Addr) (sp : Sp) (K : PySem.W.Frag) : R2 := fun x y H Q => ∃ a dx fs tb, x = .ref a ∧ H a = some (.ins C dx fs) ∧ TyX K H y tb ∧ PySem.W.notFirst K C tb = true ∧ sp [.ref a, y] H (fun v H' => ∃ b : Bool, v = .bl b ∧ Q (.bl b) H') EN
theorem op_eqO {k : Nat} {f C : Addr} {fd : FuncData} {ps : List Str} {sp : Sp} (hs : PySem.W.findIn X.K (.ref C) "__eq__" = some (some (.ref f))) (hf : PySem.W.isFn X.K (.ref f) = true) (hr : Room k X.A) (F : FnOk X.prog X.w X.K X.mg X.base (L2N.CX X.prog X.w) k f fd ps sp) (hb : Binds X.K fd ps []) :
    OpR X (compareOp .Eq) (rEqO C sp X.K) := by
  intro pins s σ H x y v u Q I rx ry h
  obtain ⟨a, dx, fs, tb, rfl, e, ty, nf, h⟩ := h
  obtain rfl : v = Value.ref a := rx
  obtain ⟨ox, od, J, _⟩ := ins_inst I e
  obtain ⟨m, fr⟩ := I.fr
  obtain ⟨P, Z, p, _⟩ := kit_of I ry ty
  show wpAny (model X.prog X.w) X.A (richCompare .Eq (.ref a) u) (EP X pins σ Q) X.xe s
  refine PySem.W.cmp_K (op := .Eq) (tb := tb) hr.units0 fr I.ok.mod.kin J (Z.ty _ _ I.kIn p) nf hs hf (thn (run_q (vs := [V.ref a, y]) (us := [Value.ref a, u]) rfl hr F hb I (.cons rfl (.cons ry .nil)) h) fun w s' ⟨v, H', I', rv, b, ev, q⟩ => ?_)
  subst ev
  cases rv
  exact ⟨.bl b, H', I', rfl, q⟩
end

/-! ### operations that call: what stood stands -/
def BinGS (K : PySem.W.Frag) (cl : Nat → Addr) (r : R2) (g : PV → PV → Option PV) : Prop :=
  ∀ (G H : Hp) (v u : V) (x y z : PV) (Q : VK), Same G H → Rep K cl G v x → Rep K cl G u y → g x y = some z → (∀ w G' H', Grown G H G' H' → Rep K cl G' w z → Q w H') → r v u H Q
theorem Grown.res1 {K : PySem.W.Frag} {cl : Nat → Addr} {G H H' : Hp} {z : PV} {w : V} (e : Same G H) (q : Res1 K cl G H z w H') : ∃ G', Grown G H G' H' ∧ Rep K cl G' w z := by
  rcases q with ⟨rfl, r⟩ | ⟨p, o, hp, rfl, r⟩
  · exact ⟨G, ⟨Same.refl _, e, Same.refl _, fun a o h => .inl h⟩, r⟩
  · refine ⟨_, ⟨same_new (e.free hp), same_upd e, same_new hp, fun a u h => ?_⟩, r⟩
    by_cases z : a = p
    · rw [z]; exact .inr hp
    · rw [upd_ne z] at h
      exact .inl h
theorem BinS.g {K : PySem.W.Frag} {cl : Nat → Addr} {r : R2} {g : PV → PV → Option PV} (h : BinS K cl r g) : BinGS K cl r g := by
  intro G H v u x y z Q e rv ru hz k
  refine h G H v u x y z Q e rv ru hz fun w H' q => ?_
  obtain ⟨G', gr, r'⟩ := Grown.res1 e q
  exact k w G' H' gr r'
def orG (g g' : PV → PV → Option PV) : PV → PV → Option PV := fun x y => match g x y with
  | some z => some z
  | none => g' x y
theorem BinGS.or {K : PySem.W.Frag} {cl : Nat → Addr} {r r' : R2} {g g' : PV → PV → Option PV} (h : BinGS K cl r g) (h' : BinGS K cl r' g') : BinGS K cl (fun x y H Q => r x y H Q ∨ r' x y H Q) (orG g g') := by
  intro G H v u x y z Q e rv ru hz k
  unfold orG at hz
  split at hz
  · rename_i z' ez
    cases hz
    exact .inl (h G H v u x y _ Q e rv ru ez k)
  · exact .inr (h' G H v u x y z Q e rv ru hz k)
def BinGR (X : Cx) (cl : Nat → Addr) (f : Value → Value → Sem Value) (g : PV → PV → Option PV) : Prop := ∃ r : R2, OpR X f r ∧ BinGS X.K cl r g
section
variable {X : Cx} {cl : Nat → Addr} {W : WX} {pos : Pos}
theorem BinR.g {f : Value → Value → Sem Value} {g : PV → PV → Option PV} (h : BinR X cl f g) : BinGR X cl f g := by
  obtain ⟨r, ho, hs⟩ := h
  exact ⟨r, ho, hs.g⟩
theorem BinGR.or {f : Value → Value → Sem Value} {g g' : PV → PV → Option PV} (h : BinGR X cl f g) (h' : BinGR X cl f g') : BinGR X cl f (orG g g') := by
  obtain ⟨r, ho, hs⟩ := h
  obtain ⟨r', ho', hs'⟩ := h'
  exact ⟨_, ho.or ho', hs.or hs'⟩
theorem does_binG {g : PV → PV → Option PV} {r : R2} {ta tb : TE} {ma mb : M PV} (hr : BinGS X.K cl r g) (h1 : Does X.K cl W (RV X.K cl) ta ma) (h2 : Does X.K cl W (RV X.K cl) tb mb) : Does X.K cl W (RV X.K cl) (tOp r ta tb) (mBin g ma mb) := by
  intro F G H σ S rr Q st hm hp
  refine h1.step st hm hp fun x S1 v G1 H1 hm1 s1 st1 rv hp1 => ?_
  refine h2.step st1 hm1 hp1 fun y S2 u G2 H2 hm2 s2 st2 ru hp2 => ?_
  obtain ⟨z, ez, rfl⟩ := lift_eq hm2
  exact hr G2 H2 v u x y z Q st2.ex (rv.mono s2) ru ez fun w G' H' gr r' => hp2 w G' H' gr.g (st2.grown gr) r'
theorem em_cmpG {op : CmpOp} {a b : Expr} {g : PV → PV → Option PV} {ma mb : M PV} (hb : BinGR X cl (compareOp op) g) (ha : EM X cl W a ma) (hb' : EM X cl W b mb) (hm : behindInMarks op b = false) : EM X cl W (.Compare a [op] [b] pos) (mBin g ma mb) := by
  obtain ⟨ta, pa, da⟩ := ha
  obtain ⟨tb, pb, db⟩ := hb'
  obtain ⟨r, ho, hs⟩ := hb
  exact ⟨_, pe_cmpR ho pa pb hm, does_binG hs da db⟩
theorem tm_cmpG {op : CmpOp} {a b : Expr} {g : PV → PV → Option PV} {ma mb : M PV} (hb : BinGR X cl (compareOp op) g) (ha : EM X cl W a ma) (hb' : EM X cl W b mb) (hm : behindInMarks op b = false) : TM X cl W (.Compare a [op] [b] pos) (mTest (mBin g ma mb)) := by
  obtain ⟨ta, pa, da⟩ := ha
  obtain ⟨tb, pb, db⟩ := hb'
  obtain ⟨r, ho, hs⟩ := hb
  exact ⟨_, pt_cmpR ho pa pb hm, does_test (does_binG hs da db)⟩
/-- o == y by the class's own __eq__ -/
def roB : Option RO → Option PV
  | some (.ret (.bl b)) => some (.bl b)
  | _ => none
theorem roB_some {r : Option RO} {z : PV} (h : roB r = some z) : ∃ b, r = some (.ret (.bl b)) ∧ z = .bl b := by
  unfold roB at h
  split at h
  · rename_i b
    cases h
    exact ⟨b, rfl, rfl⟩
  · cases h
def pEqO (c : Nat) (ok : PV → Bool) (f : List PV → Option RO) (x y : PV) : Option PV := match x with
  | .obj d fs => if d = c ∧ ok y = true then roB (f [.obj d fs, y]) else none
  | _ => none
theorem br_eqO {k c : Nat} {f : Addr} {fd : FuncData} {ps : List Str} {g : List PV → Option RO} {ok : PV → Bool} (hs : PySem.W.findIn X.K (.ref (cl c)) "__eq__" = some (some (.ref f))) (hf : PySem.W.isFn X.K (.ref f) = true) (hr : Room k X.A) (F : FnOk X.prog X.w X.K X.mg X.base (L2N.CX X.prog X.w) k f fd ps (spP X.K cl 2 g)) (hb : Binds X.K fd ps [])
    (hok : ∀ y, ok y = true → ∃ t, tyVl cl y = some t ∧ (∀ (G H : Hp) (v : V), Same G H → Rep X.K cl G v y → TyX X.K H v t) ∧ PySem.W.notFirst X.K (cl c) t = true) : BinGR X cl (compareOp .Eq) (pEqO c ok g) := by
  refine ⟨_, op_eqO hs hf hr F hb, ?_⟩
  intro G H v u x y z Q e rv ru hz kk
  unfold pEqO at hz
  cases x <;> try (cases hz; done)
  dsimp only at hz
  split at hz <;> try (cases hz; done)
  rename_i q
  obtain ⟨q1, q2⟩ := q
  subst q1
  obtain ⟨b, eb, rfl⟩ := roB_some hz
  obtain ⟨t, _, ht, nf⟩ := hok y q2
  obtain ⟨a, dx, gs, ea, eg⟩ : ∃ a dx gs, v = .ref a ∧ G a = some (.ins (cl _) dx gs) := by
    cases rv with
    | obj h1 h2 => exact ⟨_, _, _, rfl, h1⟩
  subst ea
  exact ⟨a, dx, gs, t, rfl, e _ _ eg, ht G H u e ru, nf, spP_quiet' e (.cons rv (.cons ru .nil)) rfl eb fun w G' H' gr r' => by cases r'; exact ⟨b, rfl, kk _ G' H' gr (.bl b)⟩⟩
/-- y in o by the class's own __contains__ -/
def pInO (c : Nat) (f : List PV → Option RO) (y x : PV) : Option PV := match x with
  | .obj d fs => if d = c then roB (f [.obj d fs, y]) else none
  | _ => none
theorem br_inO {k c : Nat} {f : Addr} {fd : FuncData} {ps : List Str} {g : List PV → Option RO} (hs : PySem.W.findIn X.K (.ref (cl c)) "__contains__" = some (some (.ref f))) (hf : PySem.W.isFn X.K (.ref f) = true) (hr : Room k X.A) (F : FnOk X.prog X.w X.K X.mg X.base (L2N.CX X.prog X.w) k f fd ps (spP X.K cl 2 g)) (hb : Binds X.K fd ps []) : BinGR X cl (compareOp .In) (pInO c g) := by
  refine ⟨_, op_inO hs hf hr F hb, ?_⟩
  intro G H u v y x z Q e ru rv hz kk
  unfold pInO at hz
  cases x <;> try (cases hz; done)
  dsimp only at hz
  split at hz <;> try (cases hz; done)
  rename_i q
  subst q
  obtain ⟨b, eb, rfl⟩ := roB_some hz
  obtain ⟨a, dx, gs, ea, eg⟩ : ∃ a dx gs, v = .ref a ∧ G a = some (.ins (cl _) dx gs) := by
    cases rv with
    | obj h1 h2 => exact ⟨_, _, _, rfl, h1⟩
  subst ea
  exact ⟨a, dx, gs, rfl, e _ _ eg, spP_quiet' e (.cons rv (.cons ru .nil)) rfl eb fun w G' H' gr r' => by cases r'; exact ⟨b, rfl, by rw [if_neg Bool.false_ne_true]; exact kk _ G' H' gr (.bl b)⟩⟩
/-- len(o) by the class's own __len__ -/
def roN : Option RO → Option PV
  | some (.ret (.int n)) => if 0 ≤ n ∧ n < 2 ^ 63 then some (.int n) else none
  | _ => none
theorem roN_some {r : Option RO} {z : PV} (h : roN r = some z) : ∃ n : Int, r = some (.ret (.int n)) ∧ z = .int n ∧ 0 ≤ n ∧ n < 2 ^ 63 := by
  unfold roN at h
  split at h
  · rename_i n
    split at h
    · rename_i hn
      cases h
      exact ⟨n, rfl, rfl, hn⟩
    · cases h
  · cases h
def pLenO (c : Nat) (f : List PV → Option RO) (x : PV) : Option PV := match x with
  | .obj d fs => if d = c then roN (f [.obj d fs]) else none
  | _ => none
def mLenO (c : Nat) (f : List PV → Option RO) (m : M PV) : M PV := mUn (pLenO c f) m
theorem em_lenO {k c : Nat} {f : Addr} {fd : FuncData} {ps : List Str} {g : List PV → Option RO} {e : Expr} {m : M PV} {p : Pos} (hs : PySem.W.findIn X.K (.ref (cl c)) "__len__" = some (some (.ref f))) (hf : PySem.W.isFn X.K (.ref f) = true) (hr : Room (k + 1) X.A) (F : FnOk X.prog X.w X.K X.mg X.base (L2N.CX X.prog X.w) k f fd ps (spP X.K cl 1 g)) (hb : Binds X.K fd ps [])
    (hm : X.mg "len" = none) (ha : EM X cl W e m) (hg : Gl X "len" := by rfl) (hv : bootBuiltins "len" = some (.builtin "len") := by rfl) (he : starEach [e] X.env = (false, eval e X.env) :: starEach [] X.env := by rfl) (hpl : (backTo pos (starEach [] X.env)).any (·.1) = false := by rfl) :
    EM X cl W (.Call (.Name "len" p) [e] [] pos) (mLenO c g m) := by
  obtain ⟨t, pe, d⟩ := ha
  refine ⟨_, pe_callB (call_lenO hs hf hr F hb) hg hm hv (pa_cons pe pa_nil he) (by decide) (by decide) he hpl, fun F G H σ S rr Q st hm hp => ?_⟩
  refine d.step (R2 := RV X.K cl) st hm hp fun y S1 v G1 H1 hm1 s1 st1 rv hp1 => ?_
  obtain ⟨z, ez, rfl⟩ := lift_eq hm1
  unfold pLenO at ez
  cases y <;> try (cases ez; done)
  dsimp only at ez
  split at ez <;> try (cases ez; done)
  rename_i q
  subst q
  obtain ⟨n, en, rfl, hn⟩ := roN_some ez
  obtain ⟨a, dx, gs, ea, eg⟩ : ∃ a dx gs, v = .ref a ∧ G1 a = some (.ins (cl _) dx gs) := by
    cases rv with
    | obj h1 h2 => exact ⟨_, _, _, rfl, h1⟩
  subst ea
  exact ⟨a, dx, gs, rfl, st1.ex _ _ eg, spP_quiet' st1.ex (.cons rv .nil) rfl en fun w G' H' gr r' => by cases r'; exact ⟨n, rfl, hn, hp1 _ G' H' gr.g (st1.grown gr) (.int n)⟩⟩
/-- o(e, ..) by the class's own __call__ -/
def roQ : Option RO → M PV
  | some (.ret y) => ret y
  | _ => fun _ => none
theorem roQ_some {r : Option RO} {S : Sto} {q : Rs PV} (h : roQ r S = some q) : ∃ y, r = some (.ret y) ∧ q = .ok y S := by
  rcases r with _ | (y | ⟨c, fs⟩)
  · cases h
  · cases h
    exact ⟨y, rfl, rfl⟩
  · cases h
def mCallO (c : Nat) (f : List PV → Option RO) (mo : M PV) (ms : List (M PV)) : M PV := bnd mo fun x => match x with
  | .obj d fs => if d = c then bnd (mArgs ms) fun xs => roQ (f (.obj d fs :: xs)) else fun _ => none
  | _ => fun _ => none
theorem em_callO {k c n : Nat} {f : Addr} {fd : FuncData} {ps : List Str} {g : List PV → Option RO} {fe e : Expr} {es : List Expr} {mo : M PV} {ms : List (M PV)} (co : _root_.StX.CallO X.K (cl c) f) (hr : Room k X.A) (F : FnOk X.prog X.w X.K X.mg X.base (L2N.CX X.prog X.w) k f fd ps (spP X.K cl n g)) (hb : Binds X.K fd ps [])
    (hf : EM X cl W fe mo) (ha : AM X cl W (e :: es) (mArgs ms)) (hl : ms.length + 1 = n := by rfl)
    (ht : eval (.Call fe (e :: es) [] pos) X.env = (do callWith pos (← eval fe X.env) [] (backTo pos (starEach (e :: es) X.env)) (backToKw pos (keywordEach [] X.env))) := by rfl)
    (he : starEach (e :: es) X.env = (false, eval e X.env) :: starEach es X.env := by rfl) (hpl : (backTo pos (starEach es X.env)).any (·.1) = false := by rfl) :
    EM X cl W (.Call fe (e :: es) [] pos) (mCallO c g mo ms) := by
  obtain ⟨to, po, do_⟩ := hf
  obtain ⟨t, pa, da⟩ := ha
  have hx : Passes (L2N.CX X.prog X.w) X EN := fun pins σ H s e s' I hq => by
    obtain ⟨_, _, _, _, _, _, _, _, _, _, _, _, no⟩ := hq
    exact no.elim
  refine ⟨_, _root_.StX.pe_callO po co (F.raw hb (ds := []) (dvs := []) .nil) hr hx pa ht he hpl, fun F G H σ S rr Q st hm hp => ?_⟩
  refine do_.step (R2 := RV X.K cl) st hm hp fun y S1 v G1 H1 hm1 s1 st1 rv hp1 => ?_
  cases y <;> try (cases hm1; done)
  dsimp only at hm1
  split at hm1 <;> try (cases hm1; done)
  rename_i q
  subst q
  obtain ⟨a, dx, gs, ea, eg⟩ : ∃ a dx gs, v = .ref a ∧ G1 a = some (.ins (cl _) dx gs) := by
    cases rv with
    | obj h1 h2 => exact ⟨_, _, _, rfl, h1⟩
  subst ea
  refine ⟨a, rfl, ?_⟩
  refine da.step' (R2 := RV X.K cl) st1 hm1 hp1 fun ys S2 vs G2 H2 e2 hm2 s2 st2 rvs hp2 => ?_
  refine ⟨.inr ⟨dx, gs, st2.ex _ _ (s2 _ _ eg)⟩, ?_⟩
  show spP X.K cl n g ((V.ref a :: vs) ++ []) H2 Q EN
  rw [List.append_nil]
  obtain ⟨y, ey, rfl⟩ := roQ_some hm2
  exact spP_quiet' st2.ex (.cons (rv.mono s2) rvs) (by rw [List.length_cons, rvs.length, mArgs_len e2]; exact hl) ey fun w G' H' gr r' => hp2 w G' H' gr.g (st2.grown gr) r'
end
end Kp
set_option Elab.async false
set_option linter.all false
set_option maxRecDepth 100000
set_option maxHeartbeats 2000000
namespace Kp
open PySem PyProof.Rows L2

/-! ### sorted(..) of data -/
section
variable {prog : Program} {w : World} {A : Around} {E : Value → Shared → Prop} {s : Shared} {β : Type} {R : Value → β → Prop} {enc : β → PyData}
/-- whatever is collected (the items ys, which may come in any order), sorted into a new list -/
theorem sorted_by {u : Value} {C : List β → Prop} {Q : Value → Shared → Prop}
    (hcol : ∀ P : List Value → Shared → Prop, (∀ (ys : List Value) (h' : Heap) (tk : Nat) (cs : List β), (∀ b o, s.heap.get? b = some o → h'.get? b = some o) → PySem.W.EachIs R ys cs → PySem.W.EachIs (fun v b => ∃ as, PySem.Reads h' v (enc b) as) ys cs → C cs → P ys { s with heap := h', toks := tk }) → wpAny (model prog w) A.in1 (collect u) P E s)
    (hal : ∀ cs, C cs → PySem.W.AllAlike (cs.map enc) ∧ PySem.W.Sortable (cs.map enc) ∧ cs.length ≤ sizeLine ∧ ∀ b, b ∈ cs → A.units + 2 + (enc b).depth < cLine)
    (h : ∀ (out : List Value) (h1 h2 : Heap) (tk : Nat) (p : Addr) (n : Nat) (cs : List β), (∀ b o, s.heap.get? b = some o → h1.get? b = some o) → h1.objs.size ≤ p → (∀ b o, h1.get? b = some o → h2.get? b = some o) → h2.get? p = some (seqObj "list" out.toArray n) → C cs → PySem.W.EachIs R out (cs.mergeSort (PySem.W.dataLe false enc)) → Q (.ref p) { s with heap := h2, toks := tk }) :
    wpAny (model prog w) A (call (.builtin "sorted") [u]) Q E s := by
  refine PySem.Calls.call_function_entry kind_sorted plain_sorted entry_sorted (args_sorted1 _) ?_
  unfold Builtin.«sorted»
  refine wpAny_bind (m := checkCount "sorted" 1 1 _) (wpAny_pure ?_)
  refine wpAny_bind (hcol _ fun ys h' tk cs keep e er pm => ?_)
  obtain ⟨hal', hk', hL, hu⟩ := hal cs pm
  have hlen : ys.length ≤ sizeLine := by rw [e.length]; exact hL
  refine wpAny_bind (wpAny_newList ?_ hlen)
  have ho : (h'.push (seqObj "list" ys.toArray 0)).get? h'.objs.size = some (seqObj "list" ys.toArray 0) := Heap.get?_push_size _ rfl
  have old : ∀ b o, h'.get? b = some o → (PySem.W.sortingHeap (h'.push (seqObj "list" ys.toArray 0)) h'.objs.size ys).get? b = some o := fun b o q =>
    PySem.W.sortingHeap_old (Nat.ne_of_lt (Heap.lt_size q)) (Heap.get?_push_of_some _ q)
  have er' : PySem.W.EachIs (fun v b => ∃ as, PySem.Reads (PySem.W.sortingHeap (h'.push (seqObj "list" ys.toArray 0)) h'.objs.size ys) v (enc b) as) ys cs := er.mono fun _ _ ⟨as, r⟩ => ⟨as, PyProof.Rows.Reads.keeps old r⟩
  have S := PySem.W.SortsAt.data (prog := prog) (w := w) (A := A.in1.in1) (s := { s with heap := PySem.W.sortingHeap (h'.push (seqObj "list" ys.toArray 0)) h'.objs.size ys, toks := tk })
    (PySem.W.each_map (R := fun v d => ∃ as, PySem.Reads (PySem.W.sortingHeap (h'.push (seqObj "list" ys.toArray 0)) h'.objs.size ys) v d as) enc er') hal' hk' (PySem.W.bound_map fun b hb => by
      have q := hu b hb
      show A.units + 1 + 1 + _ < _
      omega)
  show wpAny _ _ _ _ _ { s with heap := h'.push (seqObj "list" ys.toArray 0), toks := tk }
  refine wpAny_bind (wpAny_holding (wpAny_call_entry slot_list_sort ⟨_, ho, rfl⟩ entry_list_sort
    (PySem.W.list_sort_vals (s := { s with heap := h'.push (seqObj "list" ys.toArray 0), toks := tk }) ho S hlen ⟨_, rfl, ?_⟩) (args_list_sort _)))
  obtain ⟨n, hat⟩ := sortedHeap_at (out := (PySem.W.sortVals (PySem.W.dataKind (PySem.W.sortingHeap (h'.push (seqObj "list" ys.toArray 0)) h'.objs.size ys) (cs.map enc)) false ys ys).toArray) ho
  refine wpAny_pure ⟨_, rfl, h _ h' _ tk h'.objs.size n cs keep (Nat.le_refl _) (fun b o q' => ?_) hat pm (PySem.W.sortVals_data false e er' hal')⟩
  have hb := Heap.lt_size q'
  rw [sortedHeap_old (Nat.ne_of_lt hb) (by rw [size_push']; exact Nat.lt_succ_of_lt hb)]
  exact Heap.get?_push_of_some _ q'
end

/-! #### the pure order -/
def leP (x y : PV) : Bool := PySem.W.dataLe false PV.dat x y
def alikeLP : List PV → Bool
  | xs => xs.all fun x => xs.all fun y => PySem.W.alike (PV.dat x) (PV.dat y)
def isTup1 : PV → Bool
  | .tup (_ :: _) => true
  | _ => false
def isTupNon : PV → Bool
  | .tup _ => true
  | .non => true
  | _ => false
def sortableP (xs : List PV) : Bool := xs.all isTup1 || xs.all fun x => !isTupNon x
def sortOk (xs : List PV) : Bool := PV.isDL xs && alikeLP xs && sortableP xs && decide (xs.length ≤ sizeLine) && xs.all fun x => decide ((PV.dat x).depth ≤ 60)
def sortP (xs : List PV) : List PV := xs.mergeSort leP
theorem isDL_mem {x : PV} : ∀ {xs : List PV}, PV.isDL xs = true → x ∈ xs → PV.isD x = true
  | [], _, h => by cases h
  | y :: ys, hd, h => by
    unfold PV.isDL at hd
    rw [Bool.and_eq_true] at hd
    rcases List.mem_cons.mp h with z | z
    · rw [z]; exact hd.1
    · exact isDL_mem hd.2 z
theorem allAlike_of {xs : List PV} (h : alikeLP xs = true) : PySem.W.AllAlike (xs.map PV.dat) := by
  intro d hd d' hd'
  obtain ⟨x, hx, rfl⟩ := List.mem_map.mp hd
  obtain ⟨y, hy, rfl⟩ := List.mem_map.mp hd'
  exact List.all_eq_true.mp (List.all_eq_true.mp h x hx) y hy
theorem sortable_of {xs : List PV} (hd : PV.isDL xs = true) (h : sortableP xs = true) : PySem.W.Sortable (xs.map PV.dat) := by
  unfold sortableP at h
  rcases Bool.or_eq_true_iff.mp h with h | h
  · refine .inl fun d hd => ?_
    obtain ⟨x, hx, rfl⟩ := List.mem_map.mp hd
    have q := List.all_eq_true.mp h x hx
    unfold isTup1 at q
    split at q
    · rename_i a r
      exact ⟨PV.dat a, PV.datL r, rfl⟩
    · cases q
  · refine .inr fun d hd' => ?_
    obtain ⟨x, hx, rfl⟩ := List.mem_map.mp hd'
    have q := List.all_eq_true.mp h x hx
    have hdx : PV.isD x = true := isDL_mem hd hx
    cases x <;> first | (cases q; done) | (cases hdx; done) | exact ⟨(by intro z; cases z), (by intro ys z; cases z)⟩
/-- values with what they stand for -/
theorem repL_each {X : Cx} {cl : Nat → Addr} {pins : List (Addr × Obj)} {σ : L2.St} {G H : Hp} {s : Shared} (I : Inv X pins σ H s) (e : Same G H) : ∀ {vs : List V} {xs : List PV} {us : List Value}, RepL X.K cl G vs xs → PV.isDL xs = true → Vals vs us →
    PySem.W.EachIs (fun u (p : V × PV) => RelV p.1 u ∧ Rep X.K cl G p.1 p.2) us (vs.zip xs) ∧ PySem.W.EachIs (fun u (p : V × PV) => ∃ as, PySem.Reads s.heap u (PV.dat p.2) as) us (vs.zip xs)
  | _, _, _, .nil, _, .nil => ⟨.nil, .nil⟩
  | _, _, _, .cons r rs, hd, .cons v vs => by
    unfold PV.isDL at hd
    rw [Bool.and_eq_true] at hd
    obtain ⟨h1, h2⟩ := repL_each I e rs hd.2 vs
    exact ⟨.cons ⟨v, r⟩ h1, .cons (Dp.reads I _ _ _ ((r.mono e).dp hd.1) v) h2⟩
theorem each_vals {X : Cx} {cl : Nat → Addr} {G : Hp} : ∀ {out : List Value} {ps : List (V × PV)}, PySem.W.EachIs (fun u (p : V × PV) => RelV p.1 u ∧ Rep X.K cl G p.1 p.2) out ps → Vals (ps.map (·.1)) out ∧ RepL X.K cl G (ps.map (·.1)) (ps.map (·.2))
  | _, _, .nil => ⟨.nil, .nil⟩
  | _, _, .cons h t => by
    obtain ⟨h1, h2⟩ := each_vals t
    exact ⟨.cons h.1 h1, .cons h.2 h2⟩
theorem zip_snd {K : PySem.W.Frag} {cl : Nat → Addr} {H : Hp} : ∀ {vs : List V} {xs : List PV}, RepL K cl H vs xs → (vs.zip xs).map (·.2) = xs
  | _, _, .nil => rfl
  | _, _, .cons _ rs => by rw [List.zip_cons_cons, List.map_cons, zip_snd rs]
theorem sort_snd (ps : List (V × PV)) : (ps.mergeSort (PySem.W.dataLe false fun p : V × PV => PV.dat p.2)).map (·.2) = sortP (ps.map (·.2)) := by
  unfold sortP
  exact List.map_mergeSort (fun a _ b _ => rfl)
def pSorted : List PV → Option PV
  | [.lst xs] => if sortOk xs = true then some (.lst (sortP xs)) else none
  | [.tup xs] => if sortOk xs = true then some (.lst (sortP xs)) else none
  | _ => none
section
variable {X : Cx} {cl : Nat → Addr}
def rSortedA (K : PySem.W.Frag) (cl : Nat → Addr) : List V → Hp → VK → Prop := fun vs H Q => ∃ (a : Addr) (ws : List V) (G : Hp) (xs : List PV), vs = [.ref a] ∧ (SqL K H a ws ∨ SqT K H a ws) ∧ Same G H ∧ RepL K cl G ws xs ∧ sortOk xs = true ∧
  ∀ (p : Addr) (ys : List V), H p = none → ys.length ≤ sizeLine → RepL K cl G ys (sortP xs) → Q (.ref p) (upd H p (.lst ys))
theorem cr_sortedA (hu : X.A.units + 64 < cLine) : CallR X (.builtin "sorted") (rSortedA X.K cl) := by
  intro pins s σ H vs us Q I r h
  obtain ⟨a, ws, G, xs, rfl, hs, e, rl, ok, q⟩ := h
  obtain ⟨u, rfl, ru⟩ := vals1 r
  obtain rfl : u = Value.ref a := ru
  simp only [sortOk, Bool.and_eq_true, decide_eq_true_eq] at ok
  obtain ⟨⟨⟨⟨o1, o2⟩, o3⟩, o4⟩, o5⟩ := ok
  obtain ⟨T, o, items, n, hT, ho, hc, hd, rv, hz⟩ : ∃ (T : String) (o : Obj) (items : Array Value) (n : Nat), (T = "list" ∨ T = "tuple") ∧ s.heap.get? a = some o ∧ o.cls = .type T ∧ o.data = .seq items n ∧ Vals ws items.toList ∧ items.size ≤ sizeLine := by
    rcases hs with hs | hs
    · obtain ⟨its, rv, ⟨o, n, ho, hc, _, hd⟩, hz⟩ := I.list hs
      exact ⟨"list", o, its.toArray, n, .inl rfl, ho, hc, hd, by simpa using rv, by rw [List.size_toArray, ← rv.length]; exact hz⟩
    · obtain ⟨its, rv, ⟨o, ho, hc, n, hd⟩, hz⟩ := I.tuple hs
      exact ⟨"tuple", o, its.toArray, n, .inr rfl, ho, hc, hd, by simpa using rv, by rw [List.size_toArray, ← rv.length]; exact hz⟩
  have hen : (ws.zip xs).map (fun p : V × PV => PV.dat p.2) = xs.map PV.dat := by
    have z : (ws.zip xs).map (fun p : V × PV => PV.dat p.2) = ((ws.zip xs).map (·.2)).map PV.dat := by rw [List.map_map]; rfl
    rw [z, zip_snd rl]
  refine sorted_by (C := fun cs => cs = ws.zip xs) (enc := fun p : V × PV => PV.dat p.2) (R := fun u (p : V × PV) => RelV p.1 u ∧ Rep X.K cl G p.1 p.2) (fun P hP => ?_) (fun cs hcs => ?_) fun out h1 h2 tk p n2 cs k1 hp k2 hat hcs eo => ?_
  · refine PySem.wpAny_collect_seq a hT ho hc hd (fun h' keep => ?_) hz
    have I1 : Inv X pins σ H { s with heap := h' } := I.kept (t' := s.toks) keep
    obtain ⟨g1, g2⟩ := repL_each I1 e rl o1 rv
    exact hP _ h' s.toks _ keep g1 g2 rfl
  · subst hcs
    refine ⟨by rw [hen]; exact allAlike_of o2, by rw [hen]; exact sortable_of o1 o3, by rw [List.length_zip, rl.length, Nat.min_self]; exact o4, fun b hb => ?_⟩
    have hx : b.2 ∈ xs := by
      have : b.2 ∈ (ws.zip xs).map (·.2) := List.mem_map.mpr ⟨b, hb, rfl⟩
      rwa [zip_snd rl] at this
    have := of_decide_eq_true (List.all_eq_true.mp o5 b.2 hx)
    omega
  · subst hcs
    obtain ⟨v1, v2⟩ := each_vals eo
    rw [sort_snd, zip_snd rl] at v2
    have I1 : Inv X pins σ H { s with heap := h1, toks := tk } := I.kept k1
    have hlen : (((ws.zip xs).mergeSort (PySem.W.dataLe false fun p : V × PV => PV.dat p.2)).map (·.1)).length ≤ sizeLine := by
      rw [List.length_map, List.length_mergeSort, List.length_zip, rl.length, Nat.min_self]
      exact o4
    exact ⟨.ref p, upd H p (.lst _), I1.laid (t' := tk) k2 hp ⟨hlen, out, n2, v1, hat⟩, rfl, q p _ (I1.hok.fresh hp) hlen v2⟩
theorem cs_sortedA : CallSF X.K cl (rSortedA X.K cl) pSorted := by
  intro G H vs xs z Q e rl hz k
  unfold pSorted at hz
  split at hz <;> try (cases hz; done)
  all_goals
    split at hz <;> try (cases hz; done)
    rename_i ok
    cases hz
    obtain ⟨v, rfl, rv⟩ := repL1 rl
  · cases rv with
    | lst hs hl hr => exact ⟨_, _, G, _, rfl, .inl (SqL.of (e _ _ hs)), e, hr, ok, fun p ys hn hy ry => k p _ hn ⟨ys, upd_same, hy, ry⟩⟩
  · cases rv with
    | tup hs hl hr => exact ⟨_, _, G, _, rfl, .inr (sqt_mono e hs), e, hr, ok, fun p ys hn hy ry => k p _ hn ⟨ys, upd_same, hy, ry⟩⟩
end
end Kp
set_option Elab.async false
set_option linter.all false
set_option maxRecDepth 100000
set_option maxHeartbeats 2000000
namespace Kp
open PySem PyProof.Rows L2

/-! ### dict(pairs) -/
def pairsP : List PV → Option (List (PV × PV))
  | [] => some []
  | .tup [k, v] :: xs => if (isKey k).isSome = true then (pairsP xs).map ((k, v) :: ·) else none
  | _ => none
def mergeP (kvs more : List (PV × PV)) : List (PV × PV) := more.foldl (fun acc kv => dPut acc kv.1 kv.2) kvs
theorem pairsP_cons {x : PV} {xs : List PV} {kvs : List (PV × PV)} (h : pairsP (x :: xs) = some kvs) : ∃ k v r, x = .tup [k, v] ∧ (isKey k).isSome = true ∧ pairsP xs = some r ∧ kvs = (k, v) :: r := by
  unfold pairsP at h
  split at h
  · rename_i e; cases e
  · rename_i e
    cases e
    split at h
    · rename_i hk
      cases e2 : pairsP xs with
      | none => rw [e2] at h; cases h
      | some r =>
        rw [e2] at h
        cases h
        exact ⟨_, _, r, rfl, hk, rfl, rfl⟩
    · cases h
  · cases h
section
variable {X : Cx} {cl : Nat → Addr}
theorem plainT {pins : List (Addr × Obj)} {σ : L2.St} {H : Hp} {s : Shared} {a : Addr} {ws : List V} (I : Inv X pins σ H s) (h : TupAt X.K H a ws) : ∃ its : List Value, Vals ws its ∧ PySem.PlainSeq "tuple" s.heap a its.toArray ∧ ws.length ≤ sizeLine := by
  rcases h with ⟨o, hd, h⟩ | ⟨o, its, n, h1, h2, h3, h4, h5, h6⟩
  · obtain ⟨hg, hz, its, rv, o', ho', hc, n, hdat⟩ := I.hok a _ h
    rw [hg] at ho'
    cases ho'
    exact ⟨its, rv, ⟨o, n, hg, hc, hd, hdat⟩, hz⟩
  · exact ⟨its.toList, h6, ⟨o, n, I.kIn _ _ h1, h2, h3, by rw [Array.toArray_toList]; exact h4⟩, by rw [h6.length, Array.length_toList]; exact h5⟩
theorem plainL {pins : List (Addr × Obj)} {σ : L2.St} {H : Hp} {s : Shared} {a : Addr} {ws : List V} (I : Inv X pins σ H s) (h : SqL X.K H a ws) : ∃ its : List Value, Vals ws its ∧ PySem.PlainSeq "list" s.heap a its.toArray ∧ ws.length ≤ sizeLine := by
  obtain ⟨its, rv, ⟨o, n, ho, hc, hd, hdat⟩, hz⟩ := I.list h
  exact ⟨its, rv, ⟨o, n, ho, hc, hd, hdat⟩, hz⟩
/-- the pairs as the heap has them -/
theorem pairs_get {pins : List (Addr × Obj)} {σ : L2.St} {G H : Hp} {s : Shared} (I : Inv X pins σ H s) (e : Same G H) : ∀ {vs : List V} {xs : List PV} {us : List Value} {kvs : List (PV × PV)}, RepL X.K cl G vs xs → pairsP xs = some kvs → Vals vs us →
    ∃ (as : List Addr) (ps : List (Value × Value)) (gs : List (Key × V)) (rs : List (Key × Value)), us = as.map Value.ref ∧ ps.length = as.length ∧ rs.length = as.length ∧ KV gs rs ∧ RepK X.K cl G gs kvs ∧
      (∀ (j : Nat) (k v : Value), ps[j]? = some (k, v) → ∃ a, as[j]? = some a ∧ s.heap.IsTuple a #[k, v]) ∧ (∀ (j : Nat) (k v : Value), ps[j]? = some (k, v) → ∃ key, rs[j]? = some (key, v) ∧ (mixKind X.prog X.w).is key k = true)
  | _, _, _, _, .nil, h, .nil => by
    cases h
    exact ⟨[], [], [], [], rfl, rfl, rfl, .nil, .nil, fun j k v z => by simp at z, fun j k v z => by simp at z⟩
  | _, _, _, _, .cons (v := v0) r rs', h, .cons (b := u0) rv rvs => by
    obtain ⟨k, v, kr, rfl, hk, hp, rfl⟩ := pairsP_cons h
    obtain ⟨as, ps, gs, rs, e1, e2, e3, e4, e5, e6, e7⟩ := pairs_get I e rs' hp rvs
    cases r with
    | @tup a ws0 _ hs hz hr =>
      cases hr with
      | cons rk hr =>
        cases hr with
        | @cons w _ _ _ rw' hr =>
          cases hr
          obtain ⟨kk, ek⟩ := Option.isSome_iff_exists.mp hk
          obtain rfl := isKey_some ek
          obtain rfl := rep_key rk
          obtain ⟨its, rvt, ht, _⟩ := I.tuple (sqt_mono e hs)
          obtain ⟨u1, u2, rfl, ru1, ru2⟩ := vals2 rvt
          refine ⟨a :: as, (u1, u2) :: ps, (kk, w) :: gs, (kk, u2) :: rs, ?_, by rw [List.length_cons, List.length_cons, e2], by rw [List.length_cons, List.length_cons, e3], .cons ⟨rfl, ru2⟩ e4, .cons rw' e5, fun j k v z => ?_, fun j k v z => ?_⟩
          · rw [e1, List.map_cons]
            obtain rfl : u0 = Value.ref a := rv
            rfl
          · cases j with
            | zero =>
              have z' : (u1, u2) = (k, v) := by simpa using z
              cases z'
              exact ⟨a, rfl, ht⟩
            | succ j =>
              obtain ⟨b, h1, h2⟩ := e6 j k v (by simpa using z)
              exact ⟨b, by simpa using h1, h2⟩
          · cases j with
            | zero =>
              have z' : (u1, u2) = (k, v) := by simpa using z
              cases z'
              exact ⟨kk, rfl, kV_is ru1⟩
            | succ j =>
              obtain ⟨key, h1, h2⟩ := e7 j k v (by simpa using z)
              exact ⟨key, by simpa using h1, h2⟩
theorem repK_merge {K : PySem.W.Frag} {H : Hp} : ∀ {more : List (Key × V)} {mp : List (PV × PV)} {gs : List (Key × V)} {kvs : List (PV × PV)}, RepK K cl H more mp → RepK K cl H gs kvs → RepK K cl H (mergeK gs more) (mergeP kvs mp)
  | _, _, _, _, .nil, h => h
  | _, _, _, _, .cons (vs := vs) (xs := xs) r rs, h => repK_merge (more := vs) (mp := xs) rs (h.put r)
def rDictOf (K : PySem.W.Frag) (cl : Nat → Addr) : List V → Hp → VK → Prop := fun vs H Q => ∃ (a : Addr) (ws : List V) (G : Hp) (xs : List PV) (kvs : List (PV × PV)), vs = [.ref a] ∧ (SqL K H a ws ∨ TupAt K H a ws) ∧ Same G H ∧ RepL K cl G ws xs ∧ pairsP xs = some kvs ∧
  ∀ (p : Addr) (gs : List (Key × V)), H p = none → RepK K cl G gs (mergeP [] kvs) → Q (.ref p) (upd H p (.dK gs))
theorem cr_dict (hc : X.calm = true) : CallR X (.type "dict") (rDictOf X.K cl) := by
  intro pins s σ H vs us Q I r h
  obtain ⟨a, ws, G, xs, kvs, rfl, hs, e, rl, hp, q⟩ := h
  obtain ⟨u, rfl, ru⟩ := vals1 r
  obtain rfl : u = Value.ref a := ru
  obtain ⟨T, its, hT, rv, ps, hz⟩ : ∃ (T : String) (its : List Value), (T = "list" ∨ T = "tuple") ∧ Vals ws its ∧ PySem.PlainSeq T s.heap a its.toArray ∧ ws.length ≤ sizeLine := by
    rcases hs with hs | hs
    · obtain ⟨its, h1, h2, h3⟩ := plainL I hs
      exact ⟨_, its, .inl rfl, h1, h2, h3⟩
    · obtain ⟨its, h1, h2, h3⟩ := plainT I hs
      exact ⟨_, its, .inr rfl, h1, h2, h3⟩
  obtain ⟨as, pr, gs, rs, e1, e2, e3, e4, e5, e6, e7⟩ := pairs_get I e rl hp rv
  have hlen : as.length = ws.length := by rw [rv.length, e1, List.length_map]
  have hm : (s.heap.objs.size == sysModules) = false := beq_eq_false_iff_ne.mpr (Nat.ne_of_gt I.big)
  have items : PySem.PairItems s.heap its.toArray (fun j => as.getD j 0) pr := by
    refine ⟨by rw [List.size_toArray, e1, List.length_map, e2], fun j k v z => ?_⟩
    obtain ⟨b, h1, h2⟩ := e6 j k v z
    have hb : as.getD j 0 = b := by rw [List.getD_eq_getElem?_getD, h1]; rfl
    show its.toArray[j]? = some (Value.ref (as.getD j 0)) ∧ PySem.PairAt s.heap (as.getD j 0) k v
    rw [hb]
    refine ⟨?_, .inl h2⟩
    rw [e1]
    simp [h1]
  have have' : PySem.PairsHave (mixKind X.prog X.w) pr.length (PySem.PairRel pr) rs := ⟨by rw [e3, e2], fun j k v z => e7 j k v z⟩
  have fin : ∀ h' tk, h'.DictOf (mixKind X.prog X.w) s.heap.objs.size (merged [] rs) → (∀ b o, b ∉ ([] : List Addr) → s.heap.get? b = some o → h'.get? b = some o) → EP X pins σ Q (.ref s.heap.objs.size) { s with heap := h', toks := tk } := fun h' tk hd k => by
    have hl : (mergeK [] gs).length ≤ sizeLine := by
      refine Nat.le_trans (length_mergeK gs []) ?_
      rw [List.length_nil, Nat.zero_add, e4.length, e3, hlen]
      exact hz
    exact ⟨.ref s.heap.objs.size, upd H s.heap.objs.size (.dK (mergeK [] gs)), I.laid (t' := tk) (fun b o z => k b o (by simp) z) (Nat.le_refl _) (show ObjOk X.prog X.w _ _ _ (.dK (mergeK [] gs)) from ⟨hl, hm, merged [] rs, KV.merge e4 .nil, hd⟩), rfl, q _ _ (I.hok.fresh (Nat.le_refl _)) (repK_merge e5 .nil)⟩
  rcases hT with rfl | rfl
  · exact PySem.call_dict_pairs (PySem.PairArg.list a its.toArray (fun j => as.getD j 0) pr) (I.ok.hd hc) ⟨ps, items⟩ have' (by rw [e2, hlen]; exact hz) fin
  · exact PySem.call_dict_pairs (PySem.PairArg.tuple a its.toArray (fun j => as.getD j 0) pr) (I.ok.hd hc) ⟨ps, items⟩ have' (by rw [e2, hlen]; exact hz) fin
def pDict : List PV → Option PV
  | [.lst xs] => (pairsP xs).map fun kvs => .dct (mergeP [] kvs)
  | [.tup xs] => (pairsP xs).map fun kvs => .dct (mergeP [] kvs)
  | _ => none
theorem cs_dict : CallSF X.K cl (rDictOf X.K cl) pDict := by
  intro G H vs xs z Q e rl hz k
  unfold pDict at hz
  split at hz <;> try (cases hz; done)
  all_goals
    rename_i ys
    cases hp : pairsP ys with
    | none => rw [hp] at hz; cases hz
    | some kvs => ?_
  all_goals
    rw [hp] at hz
    cases hz
    obtain ⟨v, rfl, rv⟩ := repL1 rl
  · cases rv with
    | lst hs hl hr => exact ⟨_, _, G, _, kvs, rfl, .inl (SqL.of (e _ _ hs)), e, hr, hp, fun p gs hn rg => k p _ hn ⟨gs, upd_same, rg⟩⟩
  · cases rv with
    | tup hs hl hr => exact ⟨_, _, G, _, kvs, rfl, .inr (hs.mono e), e, hr, hp, fun p gs hn rg => k p _ hn ⟨gs, upd_same, rg⟩⟩
end
end Kp
set_option Elab.async false
set_option linter.all false
set_option maxRecDepth 100000
set_option maxHeartbeats 2000000
namespace Kp
open PySem PyProof.Rows L2

theorem key_rel {P : Program} {w : World} {k : Key} {v : Value} (h : (mixKind P w).is k v = true) : RelV (kV k) v := by
  cases k with
  | inl i =>
    obtain ⟨t, e⟩ := Value.isInt_shape (k := i) (v := v) h
    exact ⟨t, e⟩
  | inr x =>
    obtain ⟨t, e⟩ := Value.isStrOf_shape (x := x) (v := v) h
    exact ⟨t, e⟩
/-! ### sorted(d) -/
def keyFit : PV → Bool
  | .str x => decide (x.length ≤ sizeLine)
  | _ => true
def pSortedD : List PV → Option PV
  | [.dct kvs] => if sortOk (kvs.map (·.1)) = true ∧ (kvs.map (·.1)).all keyFit = true then some (.lst (sortP (kvs.map (·.1)))) else none
  | _ => none
section
variable {X : Cx} {cl : Nat → Addr}
def keyPair (K : PySem.W.Frag) (kv : Key × V) : V × PV := (kV kv.1, keyPV kv.1)
theorem repK_keys {K : PySem.W.Frag} {H : Hp} : ∀ {gs : List (Key × V)} {kvs : List (PV × PV)}, RepK K cl H gs kvs → kvs.map (·.1) = gs.map fun g => keyPV g.1
  | _, _, .nil => rfl
  | _, _, .cons _ rs => by rw [List.map_cons, List.map_cons, repK_keys rs]
theorem keys_each {hp : Heap} : ∀ {gs : List (Key × V)} {us : List Value}, us.length = gs.length → (∀ (j : Nat) (v : Value), us[j]? = some v → ∃ g, gs[j]? = some g ∧ RelV (kV g.1) v) → (gs.map fun g => keyPV g.1).all keyFit = true →
    PySem.W.EachIs (fun u (p : V × PV) => RelV p.1 u ∧ ∀ (cl : Nat → Addr) (G : Hp), Rep X.K cl G p.1 p.2) us (gs.map fun g => (kV g.1, keyPV g.1)) ∧ PySem.W.EachIs (fun u (p : V × PV) => ∃ as, PySem.Reads hp u (PV.dat p.2) as) us (gs.map fun g => (kV g.1, keyPV g.1))
  | [], [], _, _, _ => ⟨.nil, .nil⟩
  | [], _ :: _, hl, _, _ => by cases hl
  | _ :: _, [], hl, _, _ => by cases hl
  | g :: gs, u :: us, hl, h, hf => by
    rw [List.map_cons, List.all_cons, Bool.and_eq_true] at hf
    obtain ⟨i1, i2⟩ := keys_each (hp := hp) (gs := gs) (us := us) (by simpa using hl) (fun j v e => by simpa using h (j + 1) v (by simpa using e)) hf.2
    obtain ⟨g', eg, rg⟩ := h 0 u rfl
    have eg' : g = g' := by simpa using eg
    subst eg'
    have hr : (∀ (cl : Nat → Addr) (G : Hp), Rep X.K cl G (kV g.1) (keyPV g.1)) ∧ ∃ as, PySem.Reads hp u (PV.dat (keyPV g.1)) as := by
      obtain ⟨kk, w⟩ := g
      cases kk with
      | inl i =>
        obtain ⟨t, e⟩ := (show ∃ t, u = Value.int i t from rg)
        subst e
        exact ⟨fun _ _ => .int i, [], .int _ _⟩
      | inr x =>
        obtain ⟨t, e⟩ := (show ∃ t, u = Value.str x t from rg)
        subst e
        exact ⟨fun _ _ => .str x (of_decide_eq_true hf.1), [], .str _ _⟩
    exact ⟨.cons ⟨rg, hr.1⟩ i1, .cons hr.2 i2⟩
def rSortedK (K : PySem.W.Frag) : List V → Hp → VK → Prop := fun vs H Q => ∃ (a : Addr) (gs : List (Key × V)) (xs : List PV), vs = [.ref a] ∧ H a = some (.dK gs) ∧ xs = gs.map (fun g => keyPV g.1) ∧ sortOk xs = true ∧ xs.all keyFit = true ∧
  ∀ (p : Addr) (ys : List V), H p = none → ys.length ≤ sizeLine → (∀ (cl : Nat → Addr) (G : Hp), RepL K cl G ys (sortP xs)) → Q (.ref p) (upd H p (.lst ys))
theorem cr_sortedK (hc : X.calm = true) (hu : X.A.units + 64 < cLine) : CallR X (.builtin "sorted") (rSortedK X.K) := by
  intro pins s σ H vs us Q I r h
  obtain ⟨a, gs, xs, rfl, ha, ex, ok, hf, q⟩ := h
  obtain ⟨u, rfl, ru⟩ := vals1 r
  obtain rfl : u = Value.ref a := ru
  simp only [sortOk, Bool.and_eq_true, decide_eq_true_eq] at ok
  obtain ⟨⟨⟨⟨o1, o2⟩, o3⟩, o4⟩, o5⟩ := ok
  obtain ⟨z, lo, vs0, rel, dd⟩ := dk_of I.hok ha
  obtain ⟨ep, hat⟩ := dd.dictAt
  have hen : (gs.map fun g => ((kV g.1, keyPV g.1) : V × PV)).map (fun p : V × PV => PV.dat p.2) = xs.map PV.dat := by
    rw [ex, List.map_map, List.map_map]
    rfl
  have hsnd : (gs.map fun g => ((kV g.1, keyPV g.1) : V × PV)).map (·.2) = xs := by
    rw [ex, List.map_map]
    rfl
  have hl0 : vs0.length = gs.length := rel.length.symm
  refine sorted_by (C := fun cs => cs = gs.map fun g => ((kV g.1, keyPV g.1) : V × PV)) (enc := fun p : V × PV => PV.dat p.2) (R := fun u (p : V × PV) => RelV p.1 u ∧ ∀ (cl : Nat → Addr) (G : Hp), Rep X.K cl G p.1 p.2) (fun P hP => ?_) (fun cs hcs => ?_) fun out h1 h2 tk p n2 cs k1 hp k2 hat2 hcs eo => ?_
  · refine PySem.W.kdu_collect (A := X.A.in1) (PySem.W.kdl_dict (knd := mixKind X.prog X.w) (kvs := vs0) (ep := ep) lo) (I.ok.hd hc) hat (by rw [hl0]; exact z) fun h' tk acc hk hacc => ?_
    have hlen : acc.toList.length = gs.length := by rw [Array.length_toList, hacc.1, hl0]
    have hi : ∀ (j : Nat) (v : Value), acc.toList[j]? = some v → ∃ g, gs[j]? = some g ∧ RelV (kV g.1) v := fun j v e => by
      obtain ⟨k, x, e1, e2⟩ := hacc.2 j v (by rw [← Array.getElem?_toList]; exact e)
      have e3 : (vs0.map (·.1))[j]? = some k := by rw [List.getElem?_map, e1]; rfl
      rw [← rel.keys, List.getElem?_map] at e3
      cases eg : gs[j]? with
      | none => rw [eg] at e3; cases e3
      | some g =>
        rw [eg] at e3
        have e4 : g.1 = k := Option.some.inj e3
        subst e4
        exact ⟨g, rfl, key_rel e2⟩
    have hf' : (gs.map fun g => keyPV g.1).all keyFit = true := by rw [← ex]; exact hf
    obtain ⟨g1, g2⟩ := keys_each (X := X) (hp := h') hlen hi hf'
    exact hP _ h' tk _ hk g1 g2 rfl
  · subst hcs
    refine ⟨by rw [hen]; exact allAlike_of o2, by rw [hen]; exact sortable_of o1 o3, by rw [List.length_map]; exact z, fun b hb => ?_⟩
    have hx : b.2 ∈ xs := by
      rw [← hsnd]
      exact List.mem_map.mpr ⟨b, hb, rfl⟩
    have := of_decide_eq_true (List.all_eq_true.mp o5 b.2 hx)
    omega
  · subst hcs
    have I1 : Inv X pins σ H { s with heap := h1, toks := tk } := I.kept k1
    have v1 := (each_vals (X := X) (cl := fun _ => 0) (G := H) (eo.mono fun _ _ q => ⟨q.1, q.2 _ _⟩)).1
    have v2 : ∀ (cl : Nat → Addr) (G : Hp), RepL X.K cl G (((gs.map fun g => ((kV g.1, keyPV g.1) : V × PV)).mergeSort (PySem.W.dataLe false fun p : V × PV => PV.dat p.2)).map (·.1)) (sortP xs) := fun cl G => by
      have := (each_vals (X := X) (cl := cl) (G := G) (eo.mono fun _ _ q => ⟨q.1, q.2 _ _⟩)).2
      rw [sort_snd, hsnd] at this
      exact this
    have hlen : (((gs.map fun g => ((kV g.1, keyPV g.1) : V × PV)).mergeSort (PySem.W.dataLe false fun p : V × PV => PV.dat p.2)).map (·.1)).length ≤ sizeLine := by
      rw [List.length_map, List.length_mergeSort, List.length_map]
      exact z
    exact ⟨.ref p, upd H p (.lst _), I1.laid (t' := tk) k2 hp ⟨hlen, out, n2, v1, hat2⟩, rfl, q p _ (I1.hok.fresh hp) hlen v2⟩
theorem cs_sortedK : CallSF X.K cl (rSortedK X.K) pSortedD := by
  intro G H vs xs z Q e rl hz k
  unfold pSortedD at hz
  split at hz <;> try (cases hz; done)
  split at hz <;> try (cases hz; done)
  rename_i kvs c
  cases hz
  obtain ⟨v, rfl, rv⟩ := repL1 rl
  cases rv with
  | dct hs hr =>
    have ek := repK_keys hr
    refine ⟨_, _, _, rfl, e _ _ hs, rfl, by rw [← ek]; exact c.1, by rw [← ek]; exact c.2, fun p ys hn hy ry => k p _ hn ⟨ys, upd_same, hy, ?_⟩⟩
    rw [ek]
    exact ry cl G
end
end Kp
set_option Elab.async false
set_option linter.all false
set_option maxRecDepth 100000
set_option maxHeartbeats 2000000
namespace Kp
open PySem PyProof.Rows L2

section
variable {X : Cx} {cl : Nat → Addr} {W : WX} {pos : Pos}
def orL (g g' : List PV → Option PV) : List PV → Option PV := fun xs => match g xs with
  | some z => some z
  | none => g' xs
theorem CallSF.or {r r' : List V → Hp → VK → Prop} {g g' : List PV → Option PV} (h : CallSF X.K cl r g) (h' : CallSF X.K cl r' g') : CallSF X.K cl (fun xs H Q => r xs H Q ∨ r' xs H Q) (orL g g') := by
  intro G H vs xs z Q e rl hz k
  unfold orL at hz
  split at hz
  · rename_i z' ez
    cases hz
    exact .inl (h G H vs xs _ Q e rl ez k)
  · exact .inr (h' G H vs xs z Q e rl hz k)
def pSortedX : List PV → Option PV := orL pSorted pSortedD
theorem cr_sortedX (hc : X.calm = true) (hu : X.A.units + 64 < cLine) : CallR X (.builtin "sorted") (fun xs H Q => rSortedA X.K cl xs H Q ∨ rSortedK X.K xs H Q) := (cr_sortedA hu).or (cr_sortedK hc hu)
theorem cs_sortedX : CallSF X.K cl (fun xs H Q => rSortedA X.K cl xs H Q ∨ rSortedK X.K xs H Q) pSortedX := cs_sortedA.or cs_sortedK

/-! ### d.get(k, x) -/
def pGet (x k d : PV) : Option PV := match x with
  | .dct kvs => if (isKey k).isSome = true then some ((dGet kvs k).getD d) else none
  | _ => none
def isDct : PV → Bool
  | .dct _ => true
  | _ => false
def mGet2 (mo mk md : M PV) : M PV := bnd mo fun x => if isDct x = true then bnd mk fun k => bnd md fun d => lift (pGet x k d) else fun _ => none
theorem em_get2 {o e f : Expr} {apos : Pos} {mo mk md : M PV} (hu : X.A.units + 64 < cLine) (ho : EM X cl W o mo) (hk : EM X cl W e mk) (hd : EM X cl W f md) (m : M2 X o "get" apos e f pos := by exact ⟨rfl, rfl, rfl, rfl⟩) :
    EM X cl W (.Call (.Attribute o "get" apos) [e, f] [] pos) (mGet2 mo mk md) := by
  obtain ⟨to, po, do_⟩ := ho
  obtain ⟨tk, pk', dk⟩ := hk
  obtain ⟨td, pd, dd⟩ := hd
  refine ⟨_, pe_dget2 (by omega) po pk' pd m, fun F G H σ S rr Q st hm hp => ?_⟩
  refine do_.step (R2 := RV X.K cl) st hm hp fun x S1 v G1 H1 hm1 s1 st1 rv hp1 => ?_
  cases x <;> try (cases hm1; done)
  rename_i kvs
  rw [show isDct (.dct kvs) = true from rfl, if_pos rfl] at hm1
  obtain ⟨a, gs, ea, eg, rk⟩ : ∃ a gs, v = .ref a ∧ G1 a = some (.dK gs) ∧ RepK X.K cl G1 gs kvs := by
    cases rv with
    | dct h1 h2 => exact ⟨_, _, rfl, h1, h2⟩
  subst ea
  refine ⟨a, rfl, .inl ⟨gs, .inl (st1.ex _ _ eg)⟩, ?_⟩
  refine dk.step (R2 := RV X.K cl) st1 hm1 hp1 fun k S2 u G2 H2 hm2 s2 st2 ru hp2 => ?_
  refine dd.step (R2 := RV X.K cl) st2 hm2 hp2 fun d S3 w G3 H3 hm3 s3 st3 rd hp3 => ?_
  obtain ⟨z, ez, rfl⟩ := lift_eq hm3
  unfold pGet at ez
  dsimp only at ez
  split at ez <;> try (cases ez; done)
  rename_i hk
  cases ez
  obtain ⟨kk, ek⟩ := Option.isSome_iff_exists.mp hk
  obtain rfl := isKey_some ek
  obtain rfl := rep_key ru
  have s13 : Same G1 G3 := s2.trans s3
  have rk' := rk.mono s13
  refine ⟨valV gs kk, DGet.k (st3.ex _ _ (s13 _ _ eg)), hp3 _ _ _ (Same.refl _) st3 ?_⟩
  cases q : dGet kvs (keyPV kk) with
  | none =>
    rw [rk'.get.2 q]
    exact rd
  | some z =>
    obtain ⟨v', ev, rv'⟩ := rk'.get.1 _ q
    rw [ev]
    exact rv'
/-! ### d.setdefault(k, x), d an own dict -/
def mSetd (i : Nat) (mk md : M PV) : M PV := fun S => if isOT "dict" i S = true then bnd mk (fun k => bnd md fun d => updR i fun x => match x with
  | .dct kvs => if (isKey k).isSome = true ∧ kvs.length < sizeLine then (match dGet kvs k with
      | some z => some (.dct kvs, z)
      | none => some (.dct (dPut kvs k d), d)) else none
  | _ => none) S else none
theorem em_setd {o e f : Expr} {apos : Pos} {i : Nat} {mk md : M PV} (ho : PE X o (tVar i)) (hk : EM X cl W e mk) (hd : EM X cl W f md) (m : M2 X o "setdefault" apos e f pos := by exact ⟨rfl, rfl, rfl, rfl⟩) :
    EM X cl W (.Call (.Attribute o "setdefault" apos) [e, f] [] pos) (mSetd i mk md) := by
  obtain ⟨tk, pk', dk⟩ := hk
  obtain ⟨td, pd, dd⟩ := hd
  refine ⟨_, pe_dsetd ho pk' pd m, fun F G H σ S rr Q st hm hp => ?_⟩
  unfold mSetd at hm
  split at hm <;> try (cases hm; done)
  rename_i hT
  obtain ⟨a, ea, ty⟩ := isOT_ty st hT
  have hD : IsD H a := by
    rcases ty with ⟨h, _⟩ | ⟨h, _⟩ | ⟨h, ⟨kvs, q⟩ | ⟨kvs, q⟩⟩ | ⟨h, _⟩
    · exact absurd h (by decide)
    · exact absurd h (by decide)
    · exact .inl ⟨kvs, .inl q⟩
    · exact .inr ⟨kvs, .inl q⟩
    · exact absurd h (by decide)
  refine ⟨_, ea, a, rfl, hD, ?_⟩
  refine dk.step (R2 := RV X.K cl) st hm hp fun k S2 u G2 H2 hm2 s2 st2 ru hp2 => ?_
  refine dd.step (R2 := RV X.K cl) st2 hm2 hp2 fun d S3 w G3 H3 hm3 s3 st3 rd hp3 => ?_
  obtain ⟨a', x, x', z, S', e5, ea', ga, q, ef, fin⟩ := updR_use st3 hm3
  rw [ea] at ea'
  cases ea'
  cases x <;> try (cases ef; done)
  rename_i kvs
  dsimp only at ef
  split at ef <;> try (cases ef; done)
  rename_i c
  obtain ⟨hkk, hlen⟩ := c
  obtain ⟨kk, ek⟩ := Option.isSome_iff_exists.mp hkk
  obtain rfl := isKey_some ek
  obtain rfl := rep_key (ru.mono s3)
  obtain ⟨gs, eh, rk⟩ := q
  refine ⟨gs, kk, eh, rfl, by rw [rk.length]; exact hlen, fun v hv => ?_, fun hv => ?_⟩
  · split at ef
    · rename_i z' ez
      cases ef
      subst e5
      obtain ⟨v', ev, rv'⟩ := rk.get.1 _ ez
      rw [hv] at ev
      cases ev
      have st4 := fin (.dK gs) ⟨gs, upd_same, rk⟩
      have eH : upd H3 a (.dK gs) = H3 := by
        funext b
        by_cases e1 : b = a
        · rw [e1, upd_same, eh]
        · rw [upd_ne e1]
      rw [eH] at st4
      exact hp3 _ G3 H3 (Same.refl _) st4 rv'
    · rename_i ez
      rw [rk.get.2 ez] at hv
      cases hv
  · split at ef
    · rename_i z' ez
      obtain ⟨v', ev, rv'⟩ := rk.get.1 _ ez
      rw [hv] at ev
      cases ev
    · rename_i ez
      cases ef
      subst e5
      exact hp3 _ G3 _ (Same.refl _) (fin _ ⟨_, upd_same, rk.put rd⟩) rd
/-! ### s.join(xs) -/
def strsP : List PV → Option (List Str)
  | [] => some []
  | .str x :: xs => (strsP xs).map (x :: ·)
  | _ => none
theorem strs_rep {K : PySem.W.Frag} {H : Hp} : ∀ {xs : List PV} {ns : List Str} {vs : List V}, strsP xs = some ns → RepL K cl H vs xs → vs = ns.map V.str
  | [], ns, vs, h, r => by cases h; cases r; rfl
  | x :: xs, ns, vs, h, r => by
    cases x <;> try (cases h; done)
    unfold strsP at h
    cases e : strsP xs with
    | none => rw [e] at h; cases h
    | some ms =>
      rw [e] at h
      cases h
      cases r with
      | cons rv rs =>
        cases rv
        rw [strs_rep e rs]
        rfl
def itemsP : PV → Option (List PV)
  | .lst xs => some xs
  | .tup xs => some xs
  | _ => none
def pJoin (x y : PV) : Option PV := match x with
  | .str a => match (itemsP y).bind strsP with
    | some ys => if (ys.map (·.length)).sum + ys.length * a.length ≤ 16777216 ∧ (Txt.join a ys).length ≤ sizeLine then some (.str (Txt.join a ys)) else none
    | none => none
  | _ => none
/-- a method of a text with one argument -/
def isStr : PV → Bool
  | .str _ => true
  | _ => false
def mBinS (g : PV → PV → Option PV) (mo me : M PV) : M PV := bnd mo fun x => if isStr x = true then bnd me fun y => lift (g x y) else fun _ => none
theorem em_m1 {id : String} {name : Str} {o e : Expr} {apos : Pos} {r : V → List V → Hp → VK → Prop} {g : PV → PV → Option PV} {mo me : M PV} (slot : Slot "str" name id) (ty : typeOf (.builtin id) = pure (.type "method_descriptor")) (rule : MtR X id r) (hr : BinS X.K cl (fun x y H Q => r x [y] H Q) g) (ho : EM X cl W o mo) (he : EM X cl W e me)
    (hs : starEach [e] X.env = [(false, eval e X.env)] := by rfl) (hbase : attributeBase o name X.env (eval o X.env) = eval o X.env := by rfl) (hline : (apos.endLine == pos.line) = true := by rfl) :
    EM X cl W (.Call (.Attribute o name apos) [e] [] pos) (mBinS g mo me) := by
  obtain ⟨to, po, do_⟩ := ho
  obtain ⟨te, pe, de⟩ := he
  refine ⟨_, pe_m1 slot ty rule po pe hs hbase hline, fun F G H σ S rr Q st hm hp => ?_⟩
  refine do_.step (R2 := RV X.K cl) st hm hp fun x S1 v G1 H1 hm1 s1 st1 rv hp1 => ?_
  cases x <;> try (cases hm1; done)
  rename_i z
  rw [show isStr (.str z) = true from rfl, if_pos rfl] at hm1
  have ev : v = .str z := by cases rv; rfl
  refine ⟨⟨z, ev⟩, ?_⟩
  refine de.step (R2 := RV X.K cl) st1 hm1 hp1 fun y S2 u G2 H2 hm2 s2 st2 ru hp2 => ?_
  obtain ⟨w, ew, rfl⟩ := lift_eq hm2
  exact hr G2 H2 v u _ y w Q st2.ex (rv.mono s2) ru ew fun w' H' q => hp2.res1 st2 q
/-- .. without one -/
def mUnS (g : PV → Option PV) (mo : M PV) : M PV := bnd mo fun x => if isStr x = true then lift (g x) else fun _ => none
theorem bs_join : BinS X.K cl (fun x y H Q => ∃ a p, ∃ ys : List Str, x = .str a ∧ [y] = [V.ref p] ∧ (SqL X.K H p (ys.map V.str) ∨ SqT X.K H p (ys.map V.str)) ∧
    (ys.map (·.length)).sum + ys.length * a.length ≤ 16777216 ∧ Q (.str (Txt.join a ys)) H) pJoin := by
  intro G H v u x y z Q e rv ru hz k
  unfold pJoin at hz
  cases x <;> try (cases hz; done)
  dsimp only at hz
  split at hz <;> try (cases hz; done)
  rename_i ys eys
  split at hz <;> try (cases hz; done)
  rename_i c
  cases hz
  cases rv with
  | str a hla =>
    cases y <;> try (cases eys; done)
    · rename_i xs
      have e1 : strsP xs = some ys := eys
      cases ru with
      | tup hs hl hr => exact ⟨_, _, ys, rfl, rfl, .inr (by rw [← strs_rep e1 hr]; exact sqt_mono e hs), c.1, k _ _ (.inl ⟨rfl, .str _ c.2⟩)⟩
    · rename_i xs
      have e1 : strsP xs = some ys := eys
      cases ru with
      | lst hs hl hr => exact ⟨_, _, ys, rfl, rfl, .inl (by rw [← strs_rep e1 hr]; exact SqL.of (e _ _ hs)), c.1, k _ _ (.inl ⟨rfl, .str _ c.2⟩)⟩
theorem em_join {o e : Expr} {apos : Pos} {mo me : M PV} (ho : EM X cl W o mo) (he : EM X cl W e me) (hs : starEach [e] X.env = [(false, eval e X.env)] := by rfl) (hbase : attributeBase o "join" X.env (eval o X.env) = eval o X.env := by rfl) (hline : (apos.endLine == pos.line) = true := by rfl) :
    EM X cl W (.Call (.Attribute o "join" apos) [e] [] pos) (mBinS pJoin mo me) := em_m1 PySem.F.slot_str_join PySem.F.type_str_join mt_join bs_join ho he hs hbase hline
end
end Kp
set_option Elab.async false
set_option linter.all false
set_option maxRecDepth 100000
set_option maxHeartbeats 2000000
namespace Kp
open PySem PyProof.Rows L2 ClX

/-! ### defs with defaults -/
section
variable {P : Program} {w : World} {K : PySem.W.Frag} {mg : Str → Option Value} {base : Heap} {cl : Nat → Addr}
theorem fnPD {x qual : Str} {st : Stmt} {dvs : List V} {f : Addr} {fd : FuncData} {N ps : List Str} {k : Nat} {m : M Fl} (F : FunD K x qual (defArgs st) (defBody st) (defScope st) dvs [] f fd) (S : FnScope N ps (defScope st))
    (hb : ∀ (cdv : Value) (A : Around) (outer : List Env) (s : Shared) (H : Hp) (E : XK), Room k (A.deeper (envOfC qual (defScope st) s.heap.objs.size f cdv)) →
      SMs (cxOf (L2N.CX P w) P w K mg base N qual (defScope st) f cdv A outer s H E) cl (fun c d _ H' => E c d H') (defBody st) m) :
    FnOk P w K mg base (L2N.CX P w) (k + 1) f fd ps (spP K cl ps.length (runP N.length m)) := by
  have hps : ps.length ≤ N.length := by
    have := congrArg List.length S.pre
    rw [List.length_take] at this
    omega
  refine F.ok S (fun vs H Q E h => h.1) fun cdv A outer s H vs Q E hr hsp => ?_
  obtain ⟨t, pt, dt⟩ := hb cdv A outer s H E hr
  obtain ⟨hl, G, xs, r, e, rl, hf, hq⟩ := hsp
  refine ⟨t, pt, ?_⟩
  have st0 := stOk_startP (N := N) e rl (by rw [hl]; exact hps)
  unfold runP endP at hf
  have gr : ∀ {G' H' : Hp} {σ' : L2.St} {S' : Sto}, Same G G' → StOk K cl ⟨G, H, fun _ => none, fun _ => none⟩ G' H' σ' S' → Grown G H G' H' := fun {G' H' σ' S'} s k => ⟨s, k.ex, fun a o h => k.frame a o h (fun i z => by cases z), k.gnew⟩
  split at hf
  · rename_i S' em
    cases hf
    exact dt _ G H _ _ _ _ st0 em fun σ' G' H' s' k' => hq .non G' H' (gr s' k') .non
  · rename_i y S' em
    cases hf
    exact dt _ G H _ _ _ _ st0 em fun v σ' G' H' s' k' r' => hq v G' H' (gr s' k') r'
  · rename_i c fs S' em
    cases hf
    exact dt _ G H _ _ _ _ st0 em fun d gs σ' G' H' s' k' a b => hq d gs G' H' (gr s' k') ⟨a.1, a.2.1⟩ b
  · cases hf
theorem fnID {x qual : Str} {st : Stmt} {dvs : List V} {f : Addr} {fd : FuncData} {N ps : List Str} {k : Nat} {m : M Fl} (F : FunD K x qual (defArgs st) (defBody st) (defScope st) dvs [] f fd) (S : FnScope N ps (defScope st))
    (hb : ∀ (cdv : Value) (A : Around) (outer : List Env) (s : Shared) (H : Hp) (E : XK), Room k (A.deeper (envOfC qual (defScope st) s.heap.objs.size f cdv)) →
      SMs (cxOf (L2N.CX P w) P w K mg base N qual (defScope st) f cdv A outer s H E) cl (fun c d _ H' => E c d H') (defBody st) m) :
    FnOk P w K mg base (L2N.CX P w) (k + 1) f fd ps (spI K cl ps.length (runI N.length m)) := by
  have hps : ps.length ≤ N.length := by
    have := congrArg List.length S.pre
    rw [List.length_take] at this
    omega
  refine F.ok S (fun vs H Q E h => h.1) fun cdv A outer s H vs Q E hr hsp => ?_
  obtain ⟨t, pt, dt⟩ := hb cdv A outer s H E hr
  obtain ⟨hl, a, ws, G, x, x', xs, r, rfl, e, ga, ho, rl, hf, hq⟩ := hsp
  refine ⟨t, pt, ?_⟩
  have st0 := stOk_startI (N := N) e ga ho rl (by rw [List.length_cons] at hl; omega)
  unfold runI endI at hf
  have gr : ∀ {G' H' : Hp} {σ' : L2.St} {S' : Sto} {y : PV}, Same G G' → StOk K cl ⟨G, H, fun i => if i = 0 then some a else none, fun _ => none⟩ G' H' σ' (some (.i y) :: S') → GrownI a G H G' H' ∧ OwnAt K cl G' H' a y := fun {G' H' σ' S' y} s k => by
    refine ⟨⟨s, k.ex, fun b o n h => k.frame b o h (fun i z => ?_), k.gnew⟩, ?_⟩
    · dsimp only at z
      split at z
      · cases z; exact n rfl
      · cases z
    · obtain ⟨b, _, _, e1, q⟩ := k.inn 0 y rfl
      have e1' : some a = some b := e1
      cases e1'
      exact q
  split at hf
  · rename_i x1 S' em
    cases hf
    exact dt _ G H _ _ _ _ st0 em fun σ' G' H' s' k' => hq .non G' H' (gr s' k').1 (gr s' k').2 .non
  · rename_i y x1 S' em
    cases hf
    exact dt _ G H _ _ _ _ st0 em fun v σ' G' H' s' k' r' => hq v G' H' (gr s' k').1 (gr s' k').2 r'
  · rename_i c fs x1 S' em
    cases hf
    exact dt _ G H _ _ _ _ st0 em fun d gs σ' G' H' s' k' a b => hq d gs G' H' (gr s' k').1 (gr s' k').2 ⟨a.1, a.2.1⟩ b
  · cases hf
end

section
variable {X : Cx} {cl : Nat → Addr} {W : WX} {pos : Pos}
/-! ### C(), all by default -/
def tMake0 (C : Addr) (sp : Sp) (E : L2.St → XK) (dvs : List V) : TE := fun σ H Q => ∀ x dx, H x = none → H dx = none → dx ≠ x →
  sp (.ref x :: dvs) (upd (upd H dx (.own x)) x (.ins C dx [])) (fun v H2 => v = .non ∧ Q (.ref x) H2) (E σ)
theorem run_makeD {k : Nat} {f C : Addr} {fd : FuncData} {ps : List Str} {sp : Sp} {E : L2.St → XK} {CX : CXT} {pins : List (Addr × Obj)} {σ : L2.St} {H : Hp} {s : Shared} {Q : VK} {us ds : List Value} {vs dvs : List V} (M : Mk X.K C f) (F : FnOk X.prog X.w X.K X.mg X.base CX k f fd ps sp) (hr : Room (k + 1) X.A) (hb : Binds X.K fd ps ds) (hd : Vals dvs ds)
    (hx : PassesAt CX X σ (E σ)) (I : Inv X pins σ H s) (r : Vals vs us)
    (h : ∀ x dx, H x = none → H dx = none → dx ≠ x → sp (.ref x :: (vs ++ dvs)) (upd (upd H dx (.own x)) x (.ins C dx [])) (fun v H2 => v = .non ∧ Q (.ref x) H2) (E σ)) :
    wpAny (model X.prog X.w) X.A (call (.ref C) us) (EP X pins σ Q) X.xe s := by
  let a : Addr := s.heap.objs.size + 1
  have hq := h a s.heap.objs.size (I.hok.fresh (Nat.le_succ _)) (I.hok.fresh (Nat.le_refl _)) (Nat.ne_of_lt (Nat.lt_succ_self _))
  have I2 := Inv.made (C := C) I
  have r2 : Vals (V.ref a :: (vs ++ dvs)) ((Value.ref a :: us) ++ ds) := .cons rfl (r.append hd)
  have hl : ((Value.ref a :: us) ++ ds).length = ps.length := by
    have e := r2.length
    rw [F.len _ _ _ _ hq] at e
    exact e.symm
  have hb2 := hb _ (Value.ref a :: us) I2.kIn hl
  refine wpAny_call (make_map (f := f) I.kIn M.makes M.init (beq_iff_eq.mp M.fn) (codeAny_mono (F.run _ X.stack _ _ ⟨Value.ref a :: us, []⟩ ((Value.ref a :: us) ++ ds) _ _ (E σ) (hr.make C us [])
    (I2.env0.make C us []) hb2 r2 hq) fun r s' hq' => ?_))
  cases r with
  | error e => exact hx pins _ _ e s' I2 hq'
  | ok fl =>
    cases fl with
    | ret u =>
      obtain ⟨v, H', I3, rv, ev, q3⟩ := I2.after hq'
      subst ev
      exact ⟨rv, ⟨V.ref a, H', I3, rfl, q3⟩⟩
    | next => exact False.elim hq'
    | brk => exact False.elim hq'
    | cont => exact False.elim hq'
theorem pe_make0 {x : Str} {k : Nat} {f C : Addr} {fd : FuncData} {ps : List Str} {sp : Sp} {E : L2.St → XK} {CX : CXT} {ds : List Value} {dvs : List V} {p : Pos} (M : Mk X.K C f) (F : FnOk X.prog X.w X.K X.mg X.base CX k f fd ps sp) (hr : Room (k + 1) X.A) (hg : Gl X x) (hm : X.mg x = some (.ref C)) (hb : Binds X.K fd ps ds) (hd : Vals dvs ds) (hx : ∀ σ, PassesAt CX X σ (E σ))
    (hdb : (x == ("__debug__" : Str)) = false := by decide) : PE X (.Call (.Name x p) [] [] pos) (tMake0 C sp E dvs) := by
  refine ⟨fun pins s σ H Q I h => ?_⟩
  refine wpAny_Call_Name_kw (ld_glob I hg hm ?_ hdb)
  exact PySem.W.callWith_K0 (first := []) I.kIn M.kp (run_makeD (vs := []) (us := []) M F hr hb hd (hx σ) I .nil h)
theorem mArgs_const {S : Sto} : ∀ {dps : List PV}, mArgs (dps.map mK) S = some (.ok dps S)
  | [] => rfl
  | y :: ys => by
    show bnd (mK y) (fun x => bnd (mArgs (ys.map mK)) fun xs => ret (x :: xs)) S = _
    unfold bnd mK ret
    simp only []
    have ih := mArgs_const (S := S) (dps := ys)
    unfold mK ret at ih
    rw [ih]
def mMake0 (c : Nat) (f : PV → List PV → Option (PV × RO)) (ds : List PV) : M PV := mkM (fun x => f x ds) c
theorem em_make0 {x : Str} {k c : Nat} {f : Addr} {fd : FuncData} {ps : List Str} {n : Nat} {g : PV → List PV → Option (PV × RO)} {p : Pos} {dvs : List V} {dps : List PV} (tk : L2N.Takes X W) (M : Mk X.K (cl c) f) (F : FnOk X.prog X.w X.K X.mg X.base (L2N.CX X.prog X.w) k f fd ps (spI X.K cl n g)) (hr : Room (k + 1) X.A) (hm : X.mg x = some (.ref (cl c)))
    (hb : ∃ ds, Vals dvs ds ∧ Binds X.K fd ps ds) (hd : ∀ G, RepL X.K cl G dvs dps) (hl : dps.length + 1 = n := by rfl) (hg : Gl X x := by rfl) (hdb : (x == ("__debug__" : Str)) = false := by decide) :
    EM X cl W (.Call (.Name x p) [] [] pos) (mMake0 c g dps) := by
  obtain ⟨ds, hv, hb⟩ := hb
  refine ⟨_, pe_make0 (E := WE W) M F hr hg hm hb hv (fun σ => L2N.passAt tk σ) hdb, ?_⟩
  have dz := does_make (X := X) (cl := cl) (W := W) (c := c) (n := n) (g := g) (t := fun σ H Q => Q dvs H) (ms := dps.map mK) (fun F G H σ S rr Q st hm hp => by
    rw [mArgs_const] at hm
    cases hm
    exact hp _ _ _ (Same.refl _) st (hd G)) (by rw [List.length_map]; exact hl)
  intro F G H σ S rr Q st hm hp
  refine dz F G H σ S rr Q st ?_ hp
  unfold mMake bnd
  rw [mArgs_const]
  exact hm
/-! ### cls(e, ..), cls a name that holds a class -/
theorem pe_makeV {i : Nat} {x : Str} {k : Nat} {f C : Addr} {fd : FuncData} {ps : List Str} {sp : Sp} {E : L2.St → XK} {CX : CXT} {p : Pos} {e : Expr} {es : List Expr} {t : TA} (M : Mk X.K C f) (F : FnOk X.prog X.w X.K X.mg X.base CX k f fd ps sp) (hr : Room (k + 1) X.A) (hv : PE X (.Name x p) (tVar i)) (hb : Binds X.K fd ps []) (hx : ∀ σ, PassesAt CX X σ (E σ))
    (ha : PA X (e :: es) t) (he : starEach (e :: es) X.env = (false, eval e X.env) :: starEach es X.env := by rfl) (hpl : (backTo pos (starEach es X.env)).any (·.1) = false := by rfl) :
    PE X (.Call (.Name x p) (e :: es) [] pos) (fun σ H Q => σ[i]? = some (some (.ref C)) ∧ tMakeS C sp E t σ H Q) := by
  refine ⟨fun pins s σ H Q I h => ?_⟩
  obtain ⟨hs, h⟩ := h
  refine wpAny_Call_Name_kw (thn (hv.run pins s σ H (fun v H1 => v = .ref C ∧ H1 = H) I ⟨.ref C, hs, rfl, rfl⟩) fun u s1 ⟨v, H1, I1, r1, ev, eH⟩ => ?_)
  subst ev
  subst eH
  obtain rfl : u = Value.ref C := r1
  refine PySem.W.callWith_K (h₀ := X.base) I1.ok.mod.kin M.kp (thn (ha.run pos pins s1 σ H1 _ I1 h) fun us s2 ⟨vs, H2, I2, r, q⟩ => ⟨I2.kIn, ?_⟩) he hpl
  exact run_makeS M F hr hb (hx σ) I2 r q
def mMakeV (i c : Nat) (f : PV → List PV → Option (PV × RO)) (ms : List (M PV)) : M PV := fun S => match S[i]? with
  | some (some (.p (.glb d))) => if d = c then mMake c f ms S else none
  | _ => none
theorem em_makeV {i : Nat} {x : Str} {k c : Nat} {f : Addr} {fd : FuncData} {ps : List Str} {n : Nat} {g : PV → List PV → Option (PV × RO)} {p : Pos} {e : Expr} {es : List Expr} {ms : List (M PV)} (tk : L2N.Takes X W) (M : Mk X.K (cl c) f) (F : FnOk X.prog X.w X.K X.mg X.base (L2N.CX X.prog X.w) k f fd ps (spI X.K cl n g)) (hr : Room (k + 1) X.A)
    (hb : Binds X.K fd ps []) (hv : PE X (.Name x p) (tVar i)) (ha : AM X cl W (e :: es) (mArgs ms)) (hl : ms.length + 1 = n := by rfl) (he : starEach (e :: es) X.env = (false, eval e X.env) :: starEach es X.env := by rfl) (hpl : (backTo pos (starEach es X.env)).any (·.1) = false := by rfl) :
    EM X cl W (.Call (.Name x p) (e :: es) [] pos) (mMakeV i c g ms) := by
  obtain ⟨t, pa, da⟩ := ha
  refine ⟨_, pe_makeV (E := WE W) M F hr hv hb (fun σ => L2N.passAt tk σ) pa he hpl, fun F G H σ S rr Q st hm hp => ?_⟩
  unfold mMakeV at hm
  split at hm <;> try (cases hm; done)
  rename_i d e1
  split at hm <;> try (cases hm; done)
  rename_i q
  subst q
  obtain ⟨v, ev, rv⟩ := st.val i _ e1
  cases rv
  exact ⟨ev, does_make da hl F G H σ S rr Q st hm hp⟩
/-! ### C.m(e, ..), m a classmethod that raises nothing -/
theorem passes_EN : Passes (L2N.CX X.prog X.w) X EN := fun pins σ H s e s' I hq => by
  obtain ⟨_, _, _, _, _, _, _, _, _, _, _, _, no⟩ := hq
  exact no.elim
def mCMeth (c : Nat) (f : List PV → Option RO) (ms : List (M PV)) : M PV := bnd (mArgs ms) fun xs => roQ (f (.glb c :: xs))
theorem em_cmeth {k c n : Nat} {g p0 : Addr} {fd : FuncData} {ps : List Str} {h : List PV → Option RO} {x m : Str} {p apos : Pos} {e : Expr} {es : List Expr} {ms : List (M PV)} {mc : Value} {pl : Sem Bool} (hm : X.mg x = some (.ref (cl c))) (r : CRead X.K (cl c) mc) (cm : CMet X.K (cl c) mc m p0 g) (F : FnOk X.prog X.w X.K X.mg X.base (L2N.CX X.prog X.w) k g fd ps (spP X.K cl n h)) (hr : Room k X.A) (hb : Binds X.K fd ps [])
    (ha : AM X cl W (e :: es) (mArgs ms)) (hl : ms.length + 1 = n := by rfl) (hg : Gl X x := by rfl) (hdb : (x == ("__debug__" : Str)) = false := by decide)
    (hst : starEach (e :: es) X.env = (false, eval e X.env) :: starEach es X.env := by rfl) (hpl : (backTo pos (starEach es X.env)).any (·.1) = false := by rfl)
    (ht : eval (.Call (.Attribute (.Name x p) m apos) (e :: es) [] pos) X.env = (do
      let ov ← eval (.Name x p) X.env
      standAt apos.atName
      let (f, first) ← holding [ov] (getMethod ov m pl)
      callWith pos f first (backTo pos (starEach (e :: es) X.env)) (backToKw pos (keywordEach [] X.env))) := by rfl) :
    EM X cl W (.Call (.Attribute (.Name x p) m apos) (e :: es) [] pos) (mCMeth c h ms) := by
  obtain ⟨t, pa, da⟩ := ha
  refine ⟨_, pe_cmeth (pe_glob hg hm (v := .ref (cl c)) rfl hdb) r cm (F.raw hb (ds := []) (dvs := []) .nil) hr passes_EN pa hst hpl ht, fun F G H σ S rr Q st hm1 hp => ?_⟩
  refine ⟨rfl, ?_⟩
  refine da.step' (R2 := RV X.K cl) st hm1 hp fun ys S2 vs G2 H2 e2 hm2 s2 st2 rvs hp2 => ?_
  show spP X.K cl n h ((V.ref (cl c) :: vs) ++ []) H2 Q EN
  rw [List.append_nil]
  obtain ⟨y, ey, rfl⟩ := roQ_some hm2
  exact spP_quiet' st2.ex (.cons (.glb c) rvs) (by rw [List.length_cons, rvs.length, mArgs_len e2]; exact hl) ey fun w G' H' gr r' => hp2 w G' H' gr.g (st2.grown gr) r'
end
end Kp
set_option Elab.async false
set_option linter.all false
set_option maxRecDepth 100000
set_option maxHeartbeats 2000000
namespace Kp
open PySem PyProof.Rows L2

/-! ### an own class, as the head tells it -/
def tyNames : List String := ["NoneType", "bool", "int", "str", "tuple", "list", "dict"]
theorem tyN_mem {x : PV} {t : String} (h : tyN x = some t) : t ∈ tyNames := by
  cases x <;> first | (cases h; decide) | cases h
structure OwnC (K : PySem.W.Frag) (C : Addr) : Prop where
  ins : InsF K C
  ic : (PySem.W.clsIn K C).isSome = true
  ty : PySem.W.typeIn K (.ref C) = some (.type "type")
  sub : ∀ t, t ∈ tyNames → PySem.W.subIn K (.type t) (.ref C) = some false
def ocOf (k : Nat) : Nat → Option Bool := fun c => if c = k then some true else none
theorem kit_self {K : PySem.W.Frag} {v : Value} : PySem.W.kitOne K v v = some true := by
  unfold PySem.W.kitOne
  rw [if_pos (by simp)]
theorem isa_own {K : PySem.W.Frag} {cl : Nat → Addr} {k : Nat} (h : OwnC K (cl k)) : IsaOk K cl (.ref (cl k)) (ansO (ocOf k)) := by
  refine isa_O (fun c b e => ?_) fun x t e => ?_
  · unfold ocOf at e
    split at e
    · rename_i q
      cases e
      rw [q]
      exact ⟨h.ins, kit_self⟩
    · cases e
  · unfold PySem.W.kitOne
    rw [if_neg (by intro z; have := beq_iff_eq.mp z; cases this)]
    have e2 : ((PySem.W.clsIn K (cl k)).isSome && PySem.W.typeIn K (.ref (cl k)) == some (.type "type")) = true := by rw [h.ic, h.ty]; rfl
    show (if ((PySem.W.clsIn K (cl k)).isSome && PySem.W.typeIn K (.ref (cl k)) == some (.type "type")) = true then PySem.W.subIn K (.type t) (.ref (cl k)) else none) = some false
    rw [if_pos e2]
    exact h.sub t (tyN_mem e)
def okEq (k : Nat) : PV → Bool
  | .obj c _ => decide (c = k)
  | x => (tyN x).isSome
theorem eq_own {K : PySem.W.Frag} {cl : Nat → Addr} {k : Nat} (h : OwnC K (cl k)) : ∀ y, okEq k y = true → ∃ t, tyVl cl y = some t ∧ (∀ (G H : Hp) (v : V), Same G H → Rep K cl G v y → TyX K H v t) ∧ PySem.W.notFirst K (cl k) t = true := by
  intro y hy
  by_cases q : ∃ c fs, y = .obj c fs
  · obtain ⟨c, fs, rfl⟩ := q
    have e : c = k := of_decide_eq_true hy
    subst e
    exact ⟨_, rfl, fun G H v e r => tyx_obj e r h.ins, by unfold PySem.W.notFirst; simp⟩
  · have hy' : (tyN y).isSome = true := by
      unfold okEq at hy
      split at hy
      · rename_i c fs
        exact absurd ⟨c, fs, rfl⟩ q
      · exact hy
    obtain ⟨t, et⟩ := Option.isSome_iff_exists.mp hy'
    exact ⟨_, tyVl_data et, fun G H v e r => tyx_rep e r et, by unfold PySem.W.notFirst; rw [h.sub t (tyN_mem et)]; simp⟩
end Kp
set_option Elab.async false
set_option linter.all false
set_option maxRecDepth 100000
set_option maxHeartbeats 2000000
namespace Kp
open PySem PySem.Spec PyProof.Rows L2

/-! ### defs that are called where no repr is under way -/
structure FnG (P : Program) (w : World) (K : PySem.W.Frag) (mg : Str → Option Value) (base : Heap) (CX : CXT) (k : Nat) (f : Addr) (fd : FuncData) (ps : List Str) (sp : Sp) : Prop where
  len : ∀ vs H Q E, sp vs H Q E → vs.length = ps.length
  go : ∀ (A : Around) (outer : List Env) (s : Shared) (H : Hp) (args : Args) (us : List Value) (vs : List V) (Q : VK) (E : XK),
    A.guards = some [] → Room k A → Env0 P w K mg base A outer s H → BindsTo s fd args (ps.zip us) → Vals vs us → sp vs H Q E → codeAny (model P w) A (.call (.ref f) args) (CR CX outer P w H s Q E) s
theorem FnOk.g {P : Program} {w : World} {K : PySem.W.Frag} {mg : Str → Option Value} {base : Heap} {CX : CXT} {k : Nat} {f : Addr} {fd : FuncData} {ps : List Str} {sp : Sp} (F : FnOk P w K mg base CX k f fd ps sp) : FnG P w K mg base CX k f fd ps sp :=
  ⟨F.len, fun A outer s H args us vs Q E _ => F.run A outer s H args us vs Q E⟩
theorem FnG.mono {P : Program} {w : World} {K : PySem.W.Frag} {mg : Str → Option Value} {base : Heap} {CX : CXT} {j k : Nat} {f : Addr} {fd : FuncData} {ps : List Str} {sp : Sp} (F : FnG P w K mg base CX j f fd ps sp) (h : j ≤ k) : FnG P w K mg base CX k f fd ps sp :=
  ⟨F.len, fun A outer s H args us vs Q E hg hr => F.go A outer s H args us vs Q E hg (hr.mono h)⟩
/-- such a def's promise from its body -/
theorem fnG_of {CX : CXT} {P : Program} {w : World} {K : PySem.W.Frag} {mg : Str → Option Value} {base : Heap} {k : Nat} {f : Addr} {name qual : Str} {params : Arguments} {body : List Stmt} {scope : Scope} {dV kV doc pm cdv ct oc : Value} {an od : Option Addr} {osl : Array (Option Value)} {N ps : List Str} {sp : Sp}
    (lk : K.lookup f = some ⟨oc, od, .func (PySem.W.fnOf name qual params body scope dV kV doc pm an cdv ct), osl⟩) (hcd : PySem.W.codeIn K cdv qual = true) (S : FnScope N ps scope) (len : ∀ vs H Q E, sp vs H Q E → vs.length = ps.length)
    (hbody : ∀ (A : Around) (outer : List Env) (s : Shared) (H : Hp) (vs : List V) (Q : VK) (E : XK), A.guards = some [] → Room k (A.deeper (envOfC qual scope s.heap.objs.size f cdv)) → sp vs H Q E →
      ∃ t, PSs (cxOf CX P w K mg base N qual scope f cdv A outer s H E) body t ∧ t { nx := fun _ H' => Q .non H', rt := Q } (L2.start N vs) H) :
    FnG P w K mg base CX (k + 1) f (PySem.W.fnOf name qual params body scope dV kV doc pm an cdv ct) ps sp := by
  refine ⟨len, fun A outer s H args us vs Q E hgd hr e0 hb r hsp => ?_⟩
  have hl := len _ _ _ _ hsp
  have KX : K.In s.heap := e0.mod.kin.keeps fun b o e => (e0.bs b o e).1
  have lim : s.heap.NoLimit := e0.mod.nolimit.keeps fun b o e => (e0.bs b o e).1
  have kinds : ∀ z ∈ ps.zip us, scope.names.lookup z.1 = some .local ∨ (scope.names.lookup z.1 = some .cell ∧ ((cellsFrom (s.heap.objs.size + 1) scope.names []).lookup z.1).isSome = true) := fun ⟨n, v⟩ hz =>
    (S.par n (List.of_mem_zip hz).1).elim .inl fun q => .inr ⟨q, PySem.W.cellsFrom_some _ _ _ (.inl q)⟩
  refine codeAny_call_function hr.depth (KX _ _ lk) rfl S.co S.gen rfl (PySem.W.codeRec_of KX hcd) (hb _ _ _ _ (wpAny_newFunctionEnv_cells S.kind kinds fun env he s1 x => ?_))
  subst he
  obtain ⟨t, ht, hq⟩ := hbody A outer s H vs Q E hgd (hr.deeper _) hsp
  have I : Inv (cxOf CX P w K mg base N qual scope f cdv A outer s H E) [] (L2.start N vs) H s1 := inv_start S hr.hd e0 hl r x
  refine ⟨lim.keeps x.toInCall.keep, codeAny_func (wpAny_mono (ht.run [] s1 (L2.start N vs) H _ I hq) (fun fl s' hs => ?_) fun e s' hs => hs)⟩
  cases fl with
  | ret u => exact let ⟨v, σ', H', J, rv, q⟩ := hs; ⟨v, H', J.os, J.bare, J.base, J.hok, rv, q⟩
  | next => exact let ⟨σ', H', J, q⟩ := hs; ⟨V.non, H', J.os, J.bare, J.base, J.hok, rfl, q⟩
  | brk => exact let ⟨_, _, _, q⟩ := hs; False.elim q
  | cont => exact let ⟨_, _, _, q⟩ := hs; False.elim q
section
variable {P : Program} {w : World} {K : PySem.W.Frag} {mg : Str → Option Value} {base : Heap} {cl : Nat → Addr}
theorem fnPG {x qual : Str} {st : Stmt} {f : Addr} {fd : FuncData} {N ps : List Str} {k : Nat} {m : M Fl} (F : Fun K x qual st f fd) (S : FnScope N ps (defScope st))
    (hb : ∀ (cdv : Value) (A : Around) (outer : List Env) (s : Shared) (H : Hp) (E : XK), A.guards = some [] → Room k (A.deeper (envOfC qual (defScope st) s.heap.objs.size f cdv)) →
      SMs (cxOf (L2N.CX P w) P w K mg base N qual (defScope st) f cdv A outer s H E) cl (fun c d _ H' => E c d H') (defBody st) m) :
    FnG P w K mg base (L2N.CX P w) (k + 1) f fd ps (spP K cl ps.length (runP N.length m)) := by
  obtain ⟨oc, od, kV, doc, pm, an, cdv, ct, osl, rfl, lk, hcd⟩ := F.ex
  have hps : ps.length ≤ N.length := by
    have := congrArg List.length S.pre
    rw [List.length_take] at this
    omega
  refine fnG_of lk hcd S (fun vs H Q E h => h.1) fun A outer s H vs Q E hgd hr hsp => ?_
  obtain ⟨t, pt, dt⟩ := hb cdv A outer s H E hgd hr
  obtain ⟨hl, G, xs, r, e, rl, hf, hq⟩ := hsp
  refine ⟨t, pt, ?_⟩
  have st0 := stOk_startP (N := N) e rl (by rw [hl]; exact hps)
  unfold runP endP at hf
  have gr : ∀ {G' H' : Hp} {σ' : L2.St} {S' : Sto}, Same G G' → StOk K cl ⟨G, H, fun _ => none, fun _ => none⟩ G' H' σ' S' → Grown G H G' H' := fun {G' H' σ' S'} s k => ⟨s, k.ex, fun a o h => k.frame a o h (fun i z => by cases z), k.gnew⟩
  split at hf
  · rename_i S' em
    cases hf
    exact dt _ G H _ _ _ _ st0 em fun σ' G' H' s' k' => hq .non G' H' (gr s' k') .non
  · rename_i y S' em
    cases hf
    exact dt _ G H _ _ _ _ st0 em fun v σ' G' H' s' k' r' => hq v G' H' (gr s' k') r'
  · rename_i c fs S' em
    cases hf
    exact dt _ G H _ _ _ _ st0 em fun d gs σ' G' H' s' k' a b => hq d gs G' H' (gr s' k') ⟨a.1, a.2.1⟩ b
  · cases hf
end
section
variable {X : Cx} {cl : Nat → Addr} {W : WX} {pos : Pos}
theorem pe_callG {CX : CXT} {k : Nat} {f : Addr} {fd : FuncData} {ps : List Str} {sp : Sp} {E : L2.St → XK} {x : Str} {p : Pos} {e : Expr} {es : List Expr} {t : TA} (F : FnG X.prog X.w X.K X.mg X.base CX k f fd ps sp) (hgd : X.A.guards = some []) (hr : Room k X.A) (hg : Gl X x) (hm : X.mg x = some (.ref f)) (hk : PySem.W.keepIn X.K (.ref f) = true) (hb : Binds X.K fd ps []) (hx : ∀ σ, PassesAt CX X σ (E σ))
    (ha : PA X (e :: es) t) (hdb : (x == ("__debug__" : Str)) = false := by decide) (he : starEach (e :: es) X.env = (false, eval e X.env) :: starEach es X.env := by rfl) (hpl : (backTo pos (starEach es X.env)).any (·.1) = false := by rfl) :
    PE X (.Call (.Name x p) (e :: es) [] pos) (tCallS sp E t) := by
  refine ⟨fun pins s σ H Q I h => ?_⟩
  refine wpAny_Call_Name_kw (ld_glob I hg hm (PySem.W.callWith_K (h₀ := X.base) I.ok.mod.kin hk (thn (ha.run pos pins s σ H _ I h) fun us s1 ⟨vs, H1, I1, r, q⟩ => ⟨I1.kIn, ?_⟩) he hpl) hdb)
  have hl : us.length = ps.length := r.length.symm.trans (F.len _ _ _ _ q)
  have b := hb s1 us I1.kIn (by rw [List.append_nil]; exact hl)
  rw [List.append_nil] at b
  refine wpAny_call (codeAny_mono (F.go X.A X.stack s1 H1 ⟨us, []⟩ us vs Q (E σ) hgd hr I1.env0 b r q) fun r s' hq => ?_)
  cases r with
  | error e => exact hx σ pins H1 s1 e s' I1 hq
  | ok fl =>
    cases fl <;> first | exact I1.after hq | exact False.elim hq
theorem em_callG {x : Str} {k : Nat} {f : Addr} {fd : FuncData} {ps : List Str} {n : Nat} {g : List PV → Option RO} {p : Pos} {e : Expr} {es : List Expr} {ms : List (M PV)} (tk : L2N.Takes X W) (F : FnG X.prog X.w X.K X.mg X.base (L2N.CX X.prog X.w) k f fd ps (spP X.K cl n g)) (hgd : X.A.guards = some []) (hr : Room k X.A) (hm : X.mg x = some (.ref f)) (hk : PySem.W.keepIn X.K (.ref f) = true)
    (hb : Binds X.K fd ps []) (ha : AM X cl W (e :: es) (mArgs ms)) (hl : ms.length = n := by rfl) (hg : Gl X x := by rfl) (hdb : (x == ("__debug__" : Str)) = false := by decide) (he : starEach (e :: es) X.env = (false, eval e X.env) :: starEach es X.env := by rfl) (hpl : (backTo pos (starEach es X.env)).any (·.1) = false := by rfl) :
    EM X cl W (.Call (.Name x p) (e :: es) [] pos) (mCall g ms) := by
  obtain ⟨t, pa, d⟩ := ha
  refine ⟨_, pe_callG (E := WE W) F hgd hr hg hm hk hb (fun σ => L2N.passAt tk σ) pa hdb he hpl, fun F G H σ S rr Q st hm hp => ?_⟩
  refine d.step' (R2 := RV X.K cl) st hm hp fun y S1 v G1 H1 e1 hm1 s1 st1 rv hp1 => ?_
  exact spP_use st1 rv (by rw [rv.length, mArgs_len e1]; exact hl) hm1 hp1

/-! ### repr -/
def pRepr : List PV → Option PV
  | [x] => if PV.isD x = true ∧ (PV.dat x).showable = true ∧ (PV.dat x).shown.length ≤ sizeLine ∧ (PV.dat x).depth ≤ 60 then some (.str (PV.dat x).shown) else none
  | _ => none
def rReprP (K : PySem.W.Frag) : List V → Hp → VK → Prop := fun xs H Q => ∃ v d, xs = [v] ∧ Dp K H v d ∧ d.plain = true ∧ d.showable = true ∧ d.shown.length ≤ sizeLine ∧ d.depth ≤ 60 ∧ Q (.str d.shown) H
mutual
theorem plain_noDict : ∀ d : PyData, d.plain = true → d.hasDict = false
  | .none, _ => by unfold PyData.hasDict; rfl
  | .bool _, _ => by unfold PyData.hasDict; rfl
  | .int _, _ => by unfold PyData.hasDict; rfl
  | .str _, _ => by unfold PyData.hasDict; rfl
  | .list xs, h => by unfold PyData.hasDict; exact plainAll_noDict xs (by unfold PyData.plain at h; exact h)
  | .tuple xs, h => by unfold PyData.hasDict; exact plainAll_noDict xs (by unfold PyData.plain at h; exact h)
  | .dict kvs, h => by unfold PyData.plain at h; cases h
theorem plainAll_noDict : ∀ xs : List PyData, PyData.plainAll xs = true → PyData.hasDictAll xs = false
  | [], _ => by unfold PyData.hasDictAll; rfl
  | x :: xs, h => by
    unfold PyData.plainAll at h
    obtain ⟨h1, h2⟩ := Bool.and_eq_true_iff.mp h
    unfold PyData.hasDictAll
    rw [plain_noDict x h1, plainAll_noDict xs h2]
    rfl
end
theorem call_reprP (hgd : X.A.guards = some []) (hu : X.A.units + 64 < cLine) : CallR X (.builtin "repr") (rReprP X.K) := by
  intro pins s σ H xs us Q I r h
  obtain ⟨v, d, rfl, hd, hpl, hs, hz, hdp, q⟩ := h
  cases r with
  | cons rx rr =>
    cases rr
    obtain ⟨as, rd⟩ := Dp.reads I d v _ hd rx
    cases rd with
    | none => exact PySem.P.repr_of_none ⟨.str _, H, I.tok _, ⟨_, rfl⟩, by simpa only [PyData.shown] using q⟩
    | bool b => exact PySem.P.repr_of_bool ⟨.str _, H, I.tok _, ⟨_, rfl⟩, by simpa only [PyData.shown] using q⟩
    | int i t => exact PySem.P.repr_of_int (by simpa [PyData.showable] using hs) ⟨.str _, H, I.tok _, ⟨_, rfl⟩, by simpa only [PyData.shown] using q⟩
    | str x t => exact PySem.P.repr_of_str ⟨.str _, H, I.tok _, ⟨_, rfl⟩, by simpa only [PyData.shown] using q⟩ (by simpa only [PyData.shown] using hz)
    | list h1 h2 h3 h4 => exact repr_of_reads' (.list h1 h2 h3 h4) hs (PyData.noDict_hsm (plain_noDict _ hpl)) hgd (by omega) (fun _ _ e => e) (fun h' u tk hk => ⟨.str _, H, I.kept hk, ⟨_, rfl⟩, q⟩) hz
    | tuple h1 h2 h3 h4 => exact repr_of_reads' (.tuple h1 h2 h3 h4) hs (PyData.noDict_hsm (plain_noDict _ hpl)) hgd (by omega) (fun _ _ e => e) (fun h' u tk hk => ⟨.str _, H, I.kept hk, ⟨_, rfl⟩, q⟩) hz
    | dict h1 h2 h3 h4 h5 => exact repr_of_reads' (.dict h1 h2 h3 h4 h5) hs (PyData.noDict_hsm (plain_noDict _ hpl)) hgd (by omega) (fun _ _ e => e) (fun h' u tk hk => ⟨.str _, H, I.kept hk, ⟨_, rfl⟩, q⟩) hz
theorem cs_repr : CallS X.K cl (rReprP X.K) pRepr := by
  intro G H vs xs z Q e rl hz k
  unfold pRepr at hz
  split at hz <;> try (cases hz; done)
  rename_i x
  split at hz <;> try (cases hz; done)
  rename_i c
  obtain ⟨c1, c2, c3, c4⟩ := c
  cases hz
  cases rl with
  | cons r1 r2 =>
    cases r2
    exact ⟨_, _, rfl, (r1.mono e).dp c1, dat_plain x, c2, c3, c4, k _ _ (.inl ⟨rfl, .str _ c3⟩)⟩
end
end Kp
set_option Elab.async false
set_option linter.all false
set_option maxRecDepth 100000
set_option maxHeartbeats 2000000
namespace Kp
open PySem PySem.Spec PyProof.Rows L2

/-! ### a caught exception -/
section
variable {X : Cx} {cl : Nat → Addr} {W : WX} {pos : Pos} {a d : Addr} {c : Nat} {oe : Obj} {pn : List (Addr × Obj)}
/-- slot i holds the caught exception -/
def xoAt (i : Nat) (a d : Addr) (c : Nat) : M (List (Str × PV)) := fun S => match S[i]? with
  | some (some (.p (.xo a' d' c' fs))) => if a' = a ∧ d' = d ∧ c' = c then some (.ok fs S) else none
  | _ => none
theorem xoAt_some {i : Nat} {S S' : Sto} {fs : List (Str × PV)} (h : xoAt i a d c S = some (.ok fs S')) : S' = S ∧ S[i]? = some (some (.p (.xo a d c fs))) := by
  unfold xoAt at h
  split at h <;> try (cases h; done)
  rename_i a' d' c' fs' e
  split at h <;> try (cases h; done)
  rename_i q
  obtain ⟨rfl, rfl, rfl⟩ := q
  cases h
  exact ⟨rfl, e⟩
theorem xoAt_ex {i : Nat} {S S' : Sto} {c' : Nat} {gs : List (Str × PV)} : xoAt i a d c S ≠ some (.ex c' gs S') := by
  intro h
  unfold xoAt at h
  split at h <;> try (cases h; done)
  split at h <;> cases h
theorem xo_view {F : Fr} {G H : Hp} {σ : L2.St} {S : Sto} {i : Nat} {fs : List (Str × PV)} (st : StOk X.K cl F G H σ S) (h : S[i]? = some (some (.p (.xo a d c fs)))) : σ[i]? = some (some (V.ref a)) ∧ ∃ gs, H d = some (.xd gs) ∧ RepF X.K cl G gs fs := by
  obtain ⟨v, ev, rv⟩ := st.val i _ h
  cases rv with
  | xo h1 h2 => exact ⟨ev, _, st.ex _ _ h1, h2⟩
def mXf (i : Nat) (a d : Addr) (c : Nat) (f : Str) : M PV := bnd (xoAt i a d c) fun fs => lift (fs.lookup f)
theorem em_xf {e : Expr} {i : Nat} {f : Str} (T : L2.ExcC X.K (cl c)) (hno : PySem.W.findIn X.K (.ref (cl c)) f = some none) (hz : L2N.Zn (.ref (cl c)) (some d) oe) (hf : ∃ vs, oe.data = .fields vs) (he : PE (X.suite a ((a, oe) :: pn)) e (tVar i)) (hb : attributeBase e f X.env (eval e X.env) = eval e X.env := by rfl) :
    EM (X.suite a ((a, oe) :: pn)) cl W (.Attribute e f pos) (mXf i a d c f) := by
  refine ⟨_, pe_xf ⟨T.hg, T.hk, T.hs, T.hd⟩ hno hz.zc hf he hb, fun F G H σ S r Q st hm hp => ?_⟩
  unfold mXf at hm
  rcases bnd_some hm with ⟨fs, S1, e1, e2⟩ | ⟨c', gs, S1, e1, _⟩
  · obtain ⟨rfl, e3⟩ := xoAt_some e1
    obtain ⟨z, ez, rfl⟩ := lift_eq e2
    obtain ⟨ev, gs, h1, h2⟩ := xo_view st e3
    obtain ⟨w, ew, rw'⟩ := h2.lookup ez
    exact ⟨_, ev, rfl, rfl, d, gs, w, rfl, h1, ew, hp _ _ _ (Same.refl _) st rw'⟩
  · exact absurd e1 xoAt_ex
/-- isinstance of it -/
def rIsEd (K : PySem.W.Frag) (D a d : Addr) : List V → Hp → VK → Prop := fun xs H Q => ∃ (t : V) (u : Value) (b : Bool) (gs : List (Str × V)), xs = [.ref a, t] ∧ ClsV t u ∧ H d = some (.xd gs) ∧ PySem.W.kitOne K (.ref D) u = some b ∧ Q (.bl b) H
theorem call_isEd {D : Addr} (C : L2.ExcC X.K D) (hz : L2N.Zn (.ref D) (some d) oe) (hf : ∃ vs, oe.data = .fields vs) : CallR (X.suite a ((a, oe) :: pn)) (.builtin "isinstance") (rIsEd X.K D a d) := by
  intro pins s σ H xs us Q I r h
  obtain ⟨t, u, b, gs, rfl, hcv, hd, e, q⟩ := h
  cases r with
  | cons rx rr =>
    cases rr with
    | cons rt rr =>
      cases rr
      cases rx
      have ec := hcv.eq rt
      subst ec
      obtain ⟨hget, _⟩ := I.pin (a, oe) (List.mem_append.mpr (.inl List.mem_cons_self))
      obtain ⟨vs, hv⟩ := hf
      have hx : ObjOk X.prog X.w H s.heap d (.xd gs) := I.hok d _ hd
      obtain ⟨mA, hns, _⟩ := hx
      obtain ⟨od, ho, _⟩ := lookIn_ns hns
      have J : PySem.W.InstAt s.heap a oe D (some od) := ⟨hget, hz.1, by unfold PySem.W.notCls; rw [hv], by rw [hz.2.1]; exact ho⟩
      have hcl : (PySem.W.clsIn X.K D).isSome = true := by
        obtain ⟨cd, hc, _⟩ := PySem.W.any_some C.hd
        rw [hc]; rfl
      exact PySem.W.kia_one (PySem.W.kitx_exc hcl C.hg C.hk C.hs C.ha C.hn C.ht C.hm) I.kIn J e (fun z => nomatch z) fun tk => ⟨.bl b, H, I.kept (t' := tk) fun _ _ z => z, rfl, q⟩
def mIsE (i : Nat) (a d : Addr) (c : Nat) (b : Bool) : M PV := bnd (xoAt i a d c) fun _ => ret (.bl b)
theorem em_isE {x t : Expr} {i : Nat} {cv : V} {u : Value} {b : Bool} {p : Pos} (C : L2.ExcC X.K (cl c)) (hz : L2N.Zn (.ref (cl c)) (some d) oe) (hf : ∃ vs, oe.data = .fields vs) (hans : PySem.W.kitOne X.K (.ref (cl c)) u = some b) (hv : ClsV cv u) (hm : X.mg "isinstance" = none)
    (hx : PE (X.suite a ((a, oe) :: pn)) x (tVar i)) (hc : PE (X.suite a ((a, oe) :: pn)) t (tC cv)) (hg : Gl X "isinstance" := by rfl)
    (he : starEach [x, t] X.env = (false, eval x X.env) :: starEach [t] X.env := by rfl) (he2 : starEach [t] X.env = (false, eval t X.env) :: starEach [] X.env := by rfl) (hpl : (backTo pos (starEach [t] X.env)).any (·.1) = false := by rfl) :
    EM (X.suite a ((a, oe) :: pn)) cl W (.Call (.Name "isinstance" p) [x, t] [] pos) (mIsE i a d c b) := by
  refine ⟨_, pe_callB (call_isEd C hz hf) hg hm PyProof.Rows.boot_isinstance (pa_cons hx (pa_cons hc pa_nil he2) he) (by decide) (by decide) he hpl, fun F G H σ S r Q st hm hp => ?_⟩
  unfold mIsE at hm
  rcases bnd_some hm with ⟨fs, S1, e1, e2⟩ | ⟨c', gs, S1, e1, _⟩
  · obtain ⟨rfl, e3⟩ := xoAt_some e1
    cases e2
    obtain ⟨ev, gs, h1, h2⟩ := xo_view st e3
    exact ⟨_, ev, cv, u, b, gs, rfl, hv, h1, hans, hp _ _ _ (Same.refl _) st (.bl _)⟩
  · exact absurd e1 xoAt_ex
end

/-! ### try .. except C as x -/
theorem StOk.addX {K : PySem.W.Frag} {cl : Nat → Addr} {F : Fr} {G H : Hp} {σ : L2.St} {S : Sto} {d : Addr} {gs : List (Str × V)} (k : StOk K cl F G H σ S) (hd : H d = some (.xd gs)) (h0 : F.H0 d = none) (hR : F.R d = none) : ∃ G', Same G G' ∧ StOk K cl F G' H σ S ∧ G' d = some (.xd gs) := by
  cases hg : G d with
  | some o =>
    have := k.ex d o hg
    rw [hd] at this
    cases this
    exact ⟨G, Same.refl _, k, hg⟩
  | none =>
    have sg : Same G (upd G d (.xd gs)) := same_new hg
    have na : ∀ {b : Addr} {x : PV}, OwnAt K cl G H b x → b ≠ d := fun {b x} q z => by
      subst z
      cases x <;> try exact q.elim
      · obtain ⟨vs, e1, _⟩ := q
        rw [hd] at e1; cases e1
      · obtain ⟨vs, e1, _⟩ := q
        rw [hd] at e1; cases e1
      · obtain ⟨dx, vs, e1, _⟩ := q
        rw [hd] at e1; cases e1
    refine ⟨_, sg, ⟨fun b u e => ?_, k.ex0.trans sg, k.len, fun i x e => ?_, fun i x e => ?_, fun i x e => ?_, k.dist, k.io, k.ioh, k.iod, k.frame, fun b u e => ?_, fun b u e => ?_⟩, upd_same⟩
    · by_cases z : b = d
      · subst z
        rw [upd_same] at e
        rw [← e]
        exact hd
      · rw [upd_ne z] at e
        exact k.ex b u e
    · obtain ⟨v, e1, r⟩ := k.val i x e
      exact ⟨v, e1, r.mono sg⟩
    · obtain ⟨b, e1, ga, ha, q⟩ := k.own i x e
      exact ⟨b, e1, by rw [upd_ne (na q)]; exact ga, ha, q.mono sg rfl⟩
    · obtain ⟨b, e1, ga, ha, q⟩ := k.inn i x e
      exact ⟨b, e1, by rw [upd_ne (na q)]; exact ga, ha, q.mono sg rfl⟩
    · by_cases z : b = d
      · rw [z]; exact .inr h0
      · rw [upd_ne z] at e
        exact k.gnew b u e
    · have ne : b ≠ d := fun z => by rw [z, hR] at e; cases e
      obtain ⟨s1, s2, s3, s4⟩ := k.rsv b u e
      exact ⟨s1, by rw [upd_ne ne]; exact s2, s3, s4⟩
open Classical in
/-- what comes whatever the object is -/
noncomputable def uniq (f : Addr → Addr → Option (Rs Fl)) : Option (Rs Fl) := if h : ∃ r, ∀ a d, f a d = some r then some h.choose else none
theorem uniq_some {f : Addr → Addr → Option (Rs Fl)} {r : Rs Fl} (h : uniq f = some r) (a d : Addr) : f a d = some r := by
  unfold uniq at h
  split at h
  · rename_i q
    have e := q.choose_spec a d
    rw [Option.some.inj h] at e
    exact e
  · cases h
theorem uniq_of {f : Addr → Addr → Option (Rs Fl)} {r : Rs Fl} (h : ∀ a d, f a d = some r) : uniq f = some r := by
  have q : ∃ r, ∀ a d, f a d = some r := ⟨r, h⟩
  unfold uniq
  rw [dif_pos q]
  have e := q.choose_spec 0 0
  rw [h 0 0] at e
  exact e.symm ▸ rfl
/-- behind the suite the name is gone -/
def finX (i : Nat) : Option (Rs Fl) → Option (Rs Fl)
  | some (.ok f S) => match S[i]? with
    | some (some (.i _)) => none
    | _ => some (.ok f (S.set i none))
  | _ => none
noncomputable def mTry (cs : List Nat) (sub : Nat → Option Bool) (i : Nat) (mb : M Fl) (msu : Addr → Addr → Nat → M Fl) : M Fl := fun S => match mb S with
  | some (.ok f S') => some (.ok f S')
  | some (.ex c fs S') => if c ∈ cs then (match sub c with
    | some true => uniq fun a d => finX i (bnd (put i (.xo a d c fs)) (fun _ => msu a d c) S')
    | some false => some (.ex c fs S')
    | none => none) else none
  | none => none
section
variable {X : Cx} {cl : Nat → Addr} {W : WX} {pos : Pos}
theorem sm_try {x n : Str} {c0 : Value} {i : Nat} {body suite : List Stmt} {b₀ : Stmt} {np pos' : Pos} {cs : List Nat} {sub : Nat → Option Bool} {mb : M Fl} {msu : Addr → Addr → Nat → M Fl} (hs : X.stack = X.env :: X.outer) (hf : X.env.frame = some X.env.locals) (hN : X.N.Nodup) (hi : X.N[i]? = some n) (hln : X.env.kindOf n = some .local) (hc : Names X x c0) (tk : L2N.Takes X W)
    (hsub : ∀ c ∈ cs, ∀ b, sub c = some b → PySem.W.exmOne X.K (.ref (cl c)) c0 = some b)
    (hb : ∀ (W : WX) (pn : List (Addr × Obj)) (xe : Value → Shared → Prop), L2N.Takes (X.tr pn xe) W → PassesOwn (model X.prog X.w) X.A X.env xe → SMs (X.tr pn xe) cl W body mb)
    (hsu : ∀ (a d : Addr) (oe : Obj) (c : Nat) (pn : List (Addr × Obj)), c ∈ cs → L2N.Zn (.ref (cl c)) (some d) oe → (∃ vs, oe.data = .fields vs) → SMs (X.suite a ((a, oe) :: pn)) cl W0 (b₀ :: suite) (msu a d c)) :
    SM X cl W (.Try body [.ExceptHandler (some (.Name x np)) (some n) (b₀ :: suite) pos'] [] [] pos) (mTry cs sub i mb msu) := by
  refine ⟨_, L2N.ps_try_as hs hf hN hi hln hc tk
    (tb := fun W' D σ H => ∀ (pn : List (Addr × Obj)) (xe : Value → Shared → Prop) (h1 : L2N.Takes (X.tr pn xe) W') (h2 : PassesOwn (model X.prog X.w) X.A X.env xe), Classical.choose (hb W' pn xe h1 h2) D σ H)
    (ts := fun a cls d D σ H => ∃ (c : Nat) (dd : Addr) (hcs : c ∈ cs), cls = .ref (cl c) ∧ d = some dd ∧ ∀ (oe : Obj) (pn : List (Addr × Obj)) (hz : L2N.Zn (.ref (cl c)) (some dd) oe) (hfl : ∃ vs, oe.data = .fields vs), Classical.choose (hsu a dd oe c pn hcs hz hfl) D σ H)
    (fun W' pn xe h1 h2 => ⟨fun pins s σ H D I q => (Classical.choose_spec (hb W' pn xe h1 h2)).1.run pins s σ H D I (q pn xe h1 h2)⟩)
    (fun a oe cls d pn hz hfl => ⟨fun pins s σ H D I q => ?_⟩), fun F G H σ S r D st hm hp => ?_⟩
  · obtain ⟨c, dd, hcs, rfl, rfl, q⟩ := q
    exact (Classical.choose_spec (hsu a dd oe c pn hcs hz hfl)).1.run pins s σ H D I (q oe pn hz hfl)
  · intro pn xe h1 h2
    have db := (Classical.choose_spec (hb _ pn xe h1 h2)).2
    unfold mTry at hm
    split at hm <;> try (cases hm; done)
    · rename_i f S' em
      cases hm
      refine db F G H σ S _ D st em ?_
      cases f <;> exact hp
    · rename_i c fs S' em
      split at hm <;> try (cases hm; done)
      rename_i hcs
      refine db F G H σ S _ D st em fun d gs σ' G' H' s' st' hd rf => ?_
      obtain ⟨hd1, hd0, hdR⟩ := hd
      split at hm <;> try (cases hm; done)
      · rename_i hsb
        refine ⟨true, hsub c hcs _ hsb, fun _ a ha => ⟨c, d, hcs, rfl, rfl, fun oe pn' hz hfl => ?_⟩, fun z => by cases z⟩
        have dsu := (Classical.choose_spec (hsu a d oe c pn' hcs hz hfl)).2
        have hm' := uniq_some hm a d
        obtain ⟨G2, s2, st2, hg2⟩ := st'.addX hd1 hd0 hdR
        unfold finX at hm'
        split at hm' <;> try (cases hm'; done)
        rename_i f S2 e2
        obtain ⟨S3, e3, e4⟩ := bnd_put e2
        have st3 := put_ok (v := .ref a) st2 e3 (.xo hg2 (rf.mono s2))
        have hni : ∀ y, S2[i]? ≠ some (some (.i y)) := fun y q => by
          rw [q] at hm'
          cases hm'
        have hr : r = .ok f (S2.set i none) := by
          split at hm'
          · cases hm'
          · exact (Option.some.inj hm').symm
        subst hr
        have un : ∀ {σ5 : L2.St} {G5 H5 : Hp}, StOk X.K cl F G5 H5 σ5 S2 → StOk X.K cl F G5 H5 (σ5.set i none) (S2.set i none) := fun {σ5 G5 H5} k => k.drop (io_none k hni)
        refine dsu F G2 H' _ S3 _ _ st3 e4 ?_
        cases f with
        | nx => exact fun σ5 G5 H5 s5 k5 => hp _ G5 H5 ((s'.trans s2).trans s5) (un k5)
        | rt y => exact fun v σ5 G5 H5 s5 k5 r5 => hp v (σ5.set i none) G5 H5 ((s'.trans s2).trans s5) (un k5) r5
        | bk => exact fun σ5 G5 H5 s5 k5 => hp _ G5 H5 ((s'.trans s2).trans s5) (un k5)
        | ct => exact fun σ5 G5 H5 s5 k5 => hp _ G5 H5 ((s'.trans s2).trans s5) (un k5)
      · rename_i hsb
        cases hm
        exact ⟨false, hsub c hcs _ hsb, (fun z => Bool.noConfusion z), fun _ => hp d gs σ' G' H' s' st' ⟨hd1, hd0, hdR⟩ rf⟩
end
end Kp
set_option Elab.async false
set_option linter.all false
set_option maxRecDepth 100000
set_option maxHeartbeats 3200000
namespace Kp
open PySem PySem.Spec PyProof.Rows L2 PySem.W

/-! ### sets of keys of one kind -/
section
variable {P : Program} {w : World} {κ : Type} [DecidableEq κ] (knd : KeyKind P w κ)
variable {knd}
variable {A : Around} {E : Value → Shared → Prop} {s : Shared}
def GotK (ks : List κ) (i : Nat) (l : List κ) : Prop := l.Nodup ∧ (∀ k, k ∈ l ↔ k ∈ ks.take i) ∧ l.length ≤ i
theorem GotK.step {ks l l' : List κ} {i : Nat} {k : κ} (g : GotK ks i l) (hk : ks[i]? = some k) (p : l'.Perm (if k ∈ l then l else k :: l)) : GotK ks (i + 1) l' := by
  obtain ⟨g1, g2, g3⟩ := g
  have tk : ks.take (i + 1) = ks.take i ++ [k] := by rw [List.take_add_one, hk]; rfl
  by_cases c : k ∈ l
  · rw [if_pos c] at p
    refine ⟨p.nodup_iff.mpr g1, fun j => ?_, by rw [p.length_eq]; omega⟩
    rw [p.mem_iff, g2, tk, List.mem_append, List.mem_singleton]
    exact ⟨.inl, fun z => z.elim id fun e => by rw [e]; exact (g2 k).1 c⟩
  · rw [if_neg c] at p
    refine ⟨p.nodup_iff.mpr (List.nodup_cons.mpr ⟨c, g1⟩), fun j => ?_, by rw [p.length_eq, List.length_cons]; omega⟩
    rw [p.mem_iff, List.mem_cons, g2, tk, List.mem_append, List.mem_singleton]
    exact Or.comm
end
end Kp
set_option Elab.async false
set_option linter.all false
set_option maxRecDepth 100000
set_option maxHeartbeats 3200000
namespace Kp
open PySem PySem.Spec PyProof.Rows L2 PySem.W

/-! ### set(xs) -/
section
variable {P : Program} {w : World} {κ : Type} [DecidableEq κ] {knd : KeyKind P w κ} {A : Around} {E : Value → Shared → Prop} {s : Shared}
end
end Kp
set_option Elab.async false
set_option linter.all false
set_option maxRecDepth 100000
set_option maxHeartbeats 3200000
namespace Kp
open PySem PySem.Spec PyProof.Rows L2 PySem.W

/-! ### sorted(..) of what may be drawn -/
section
variable {prog : Program} {w : World} {A : Around} {E : Value → Shared → Prop} {s : Shared} {β : Type} {R : Value → β → Prop} {enc : β → PyData}
end

/-! ### texts in order, each once -/
/-! ### the set as a tracked thing -/
section
variable {X : Cx} {cl : Nat → Addr} {W : WX} {pos : Pos}
/-! ### sorted(set(xs)), len(set(xs)) -/
end
end Kp
set_option Elab.async false
set_option linter.all false
set_option maxRecDepth 100000
set_option maxHeartbeats 3200000
namespace Kp
open PySem PySem.Spec PyProof.Rows L2

/-! ### iter(t), t a tuple -/
section
variable {X : Cx} {cl : Nat → Addr}
end
section
variable {P : Program} {w : World} {K : PySem.W.Frag} {mg : Str → Option Value} {base : Heap} {cl : Nat → Addr}
end

/-! ### list(o) of an own object, by its own __iter__ and __len__ -/
section
variable {X : Cx} {cl : Nat → Addr}
end
end Kp
set_option Elab.async false
set_option linter.all false
set_option maxRecDepth 100000
set_option maxHeartbeats 3200000
namespace Kp
open PySem PySem.Spec PyProof.Rows L2

section
variable {X : Cx} {cl : Nat → Addr} {W : WX} {pos : Pos}
end
end Kp
set_option Elab.async false
set_option linter.all false
set_option maxRecDepth 100000
set_option maxHeartbeats 2000000
namespace Kp
open PySem PySem.Spec PyProof.Rows L2

section
variable {X : Cx} {cl : Nat → Addr} {W : WX} {pos : Pos}
end
end Kp
set_option Elab.async false
set_option linter.all false
set_option maxRecDepth 100000
set_option maxHeartbeats 2000000
namespace Kp
open PySem PySem.Spec PyProof.Rows L2

/-! ### stores from scratch -/
section
variable {K : PySem.W.Frag} {cl : Nat → Addr} {G0 H0 G H : Hp} {σ : L2.St} {S : Sto}
end

/-! ### values without lists -/
mutual
def PV.noL : PV → Bool
  | .lst _ => false
  | .frl _ => false
  | .dct _ => false
  | .xo _ _ _ _ => false
  | .tup xs => PV.noLs xs
  | .obj _ fs => PV.noLf fs
  | _ => true
def PV.noLs : List PV → Bool
  | [] => true
  | x :: xs => PV.noL x && PV.noLs xs
def PV.noLf : List (Str × PV) → Bool
  | [] => true
  | (_, x) :: xs => PV.noL x && PV.noLf xs
end
section
variable {K : PySem.W.Frag} {cl : Nat → Addr} {G G' : Hp}
theorem TupAt.keep (e : ∀ b o, G b = some o → (∀ vs, o ≠ .lst vs) → G' b = some o) {a : Addr} {vs : List V} (h : TupAt K G a vs) : TupAt K G' a vs := by
  rcases h with ⟨o, h1, h⟩ | h
  · exact .inl ⟨o, h1, e _ _ h fun _ z => nomatch z⟩
  · exact .inr h
mutual
theorem Rep.keep (e : ∀ b o, G b = some o → (∀ vs, o ≠ .lst vs) → G' b = some o) : ∀ {v : V} {x : PV}, Rep K cl G v x → PV.noL x = true → Rep K cl G' v x
  | _, _, .non, _ => .non
  | _, _, .bl b, _ => .bl b
  | _, _, .int i, _ => .int i
  | _, _, .str x h, _ => .str x h
  | _, _, .frl h, n => by unfold PV.noL at n; cases n
  | _, _, .glb c, _ => .glb c
  | _, _, .xo h hs, n => by unfold PV.noL at n; cases n
  | _, _, .raw a, _ => .raw a
  | _, _, .tup h z hs, n => .tup (h.keep e) z (RepL.keep e hs (by unfold PV.noL at n; exact n))
  | _, _, .lst h z hs, n => by unfold PV.noL at n; cases n
  | _, _, .dct h hs, n => by unfold PV.noL at n; cases n
  | _, _, .obj h hs, n => .obj (e _ _ h fun _ z => nomatch z) (RepF.keep e hs (by unfold PV.noL at n; exact n))
theorem RepL.keep (e : ∀ b o, G b = some o → (∀ vs, o ≠ .lst vs) → G' b = some o) : ∀ {vs : List V} {xs : List PV}, RepL K cl G vs xs → PV.noLs xs = true → RepL K cl G' vs xs
  | _, _, .nil, _ => .nil
  | _, _, .cons h hs, n => by
    unfold PV.noLs at n
    obtain ⟨n1, n2⟩ := Bool.and_eq_true_iff.mp n
    exact .cons (Rep.keep e h n1) (RepL.keep e hs n2)
theorem RepF.keep (e : ∀ b o, G b = some o → (∀ vs, o ≠ .lst vs) → G' b = some o) : ∀ {vs : List (Str × V)} {xs : List (Str × PV)}, RepF K cl G vs xs → PV.noLf xs = true → RepF K cl G' vs xs
  | _, _, .nil, _ => .nil
  | _, _, .cons h hs, n => by
    unfold PV.noLf at n
    obtain ⟨n1, n2⟩ := Bool.and_eq_true_iff.mp n
    exact .cons (Rep.keep e h n1) (RepF.keep e hs n2)
end
end
end Kp
set_option Elab.async false
set_option linter.all false
set_option maxRecDepth 100000
set_option maxHeartbeats 2000000
namespace Kp
open PySem PySem.Spec PyProof.Rows L2

/-! ### a def that changes nested lists behind a call: rows = [list(pair) ..]; m = C(rows); if rows != ..; for row in rows: ..; rows.append(..); return .. -/
section
variable {X : Cx} {cl : Nat → Addr} {W : WX}
end
end Kp
set_option Elab.async false
set_option linter.all false
set_option maxRecDepth 100000
set_option maxHeartbeats 2000000
namespace Kp
open PySem PySem.Spec PyProof.Rows L2

def isRefP : PV → Bool
  | .tup _ => true
  | .lst _ => true
  | .obj _ _ => true
  | _ => false
open Classical in
open Classical in
section
variable {P : Program} {w : World} {K : PySem.W.Frag} {mg : Str → Option Value} {base : Heap} {cl : Nat → Addr}
end
end Kp
set_option Elab.async false
set_option linter.all false
set_option maxRecDepth 100000
set_option maxHeartbeats 4000000
namespace Kp
open PySem PySem.Spec PyProof.Rows L2

/-! ### the end of a law: its promise is kept where no repr is under way -/
theorem law_callG {P : Program} {w : World} {K : PySem.W.Frag} {mg mb : Str → Option Value} {CX : CXT} {k : Nat} {fa a : Addr} {fd : FuncData} {x : Str} {sp : Sp} {s1 : Shared} {us : List Value} {ns : List Int} (KX : K.In s1.heap) (hns : s1.heap.Ns mainGlobals mg) (hb : s1.heap.Ns builtinsNs mb) (hbb : ∀ x : Str, x ≠ "__name__" → mb x = bootBuiltins x)
    (hlim : s1.heap.NoLimit) (hg : s1.gens = #[]) (ha : s1.heap.get? a = some { cls := .type "list", data := .seq us.toArray }) (hi : IntsAre us ns) (hl : ns.length ≤ sizeLine) (hr : Room k callerA) (F : ∀ base : Heap, K.In base → base.Ns mainGlobals mg → FnG P w K mg base CX k fa fd [x] sp)
    (hbind : ∀ (s : Shared) (u : Value), BindsTo s fd ⟨[u], []⟩ [(x, u)]) (hsp : ∀ H : Hp, Only H → SqL K H a (ns.map V.int) → sp [.ref a] H (fun v _ => v = .bl true) fun _ _ _ => False) (hCX : ∀ H e s', CX [] H s1 (fun _ _ _ => False) e s' → False) :
    codeAny (model P w) callerA (.call (.ref fa) ⟨[.ref a], []⟩) (fun r s' => r = .ok (.ret (.bool true)) ∧ OldK s1.heap s'.heap ∧ s'.os = s1.os ∧ AllBare s'.gens) s1 := by
  have rv := vals_ints hi
  have lz := hi.length
  have core : ∀ H : Hp, Only H → SqL K H a (ns.map V.int) → HOk P w H s1.heap → (∀ b, H b ≠ none → b = a) → (H a ≠ none → K.lookup a = none) →
      codeAny (model P w) callerA (.call (.ref fa) ⟨[.ref a], []⟩) (fun r s' => r = .ok (.ret (.bool true)) ∧ OldK s1.heap s'.heap ∧ s'.os = s1.os ∧ AllBare s'.gens) s1 := fun H hO hS hok hA hK => by
    -- what is no list is not tracked
    have noA : ∀ {b : Addr} {o : Obj}, s1.heap.get? b = some o → (∀ its c, o.data ≠ .seq its c) → H b = none := fun {b o} e d => by
      cases q : H b with
      | none => rfl
      | some u =>
        have hb' : b = a := hA b (by rw [q]; exact fun z => nomatch z)
        subst hb'
        rw [ha] at e
        cases e
        exact absurd rfl (d _ _)
    have nsK : ∀ {b : Addr} {m : Str → Option Value}, s1.heap.Ns b m → (hidT s1.heap H).Ns b m := fun {b m} ⟨o, es, ep, e, d, r⟩ => ⟨o, es, ep, hidT_get e (noA e fun its c z => by rw [d] at z; cases z), d, r⟩
    have hKb : K.In (hidT s1.heap H) := fun b o e => hidT_get (KX b o e) (by
      cases q : H b with
      | none => rfl
      | some u =>
        have hb' : b = a := hA b (by rw [q]; exact fun z => nomatch z)
        subst hb'
        have n := hK (by rw [q]; exact fun z => nomatch z)
        rw [n] at e
        cases e)
    have hM : Mod K mg (hidT s1.heap H) := by
      obtain ⟨mc, l1, l2⟩ := hlim
      exact ⟨hKb, nsK hns, ⟨mb, nsK hb, hbb⟩, mc, nsK l1, l2⟩
    have e0 : Env0 P w K mg (hidT s1.heap H) callerA [] s1 H := ⟨rfl, hM, fun b o e => of_hidT e, Nat.le_of_eq (hidT_size _ _), trivial, (fun b z => nomatch z), hok, .of_eq hg⟩
    refine codeAny_mono ((F _ hKb (nsK hns)).go callerA [] s1 H ⟨[.ref a], []⟩ [.ref a] [.ref a] _ _ rfl hr e0 (hbind s1 (.ref a)) (.cons rfl .nil) (hsp H hO hS)) fun r s2 h => ?_
    cases r with
    | error e => exact (hCX H e s2 h).elim
    | ok fl =>
      cases fl <;> try exact False.elim h
      obtain ⟨v, H2, os, bare, un, hok2, rv2, q⟩ := h
      have q' : v = .bl true := q
      subst q'
      cases rv2
      refine ⟨rfl, OldK.of_keep fun b o e => ?_, os, bare⟩
      cases q : H b with
      | none => exact un.keep b o e q (fun z => nomatch z) (fun z => nomatch z)
      | some u =>
        rcases hO b with z | ⟨ob, xs, z⟩
        · rw [q] at z; cases z
        · obtain ⟨y1, _⟩ := hok b _ z
          obtain ⟨y2, _⟩ := hok2 b _ (un.frzs b ob _ z)
          rw [e] at y1
          cases y1
          exact y2
  by_cases hk : ∃ o, K.lookup a = some o
  · obtain ⟨o, hk⟩ := hk
    have e := (KX a o hk).symm.trans ha
    cases e
    exact core (fun _ => none) (fun _ => .inl rfl) (.inr ⟨_, us.toArray, _, hk, rfl, rfl, rfl, by rw [List.size_toArray, lz]; exact hl, by simpa using rv⟩) (fun b u z => nomatch z) (fun b z => absurd rfl z) fun z => absurd rfl z
  · have hk' : K.lookup a = none := by
      cases q : K.lookup a with
      | none => rfl
      | some o => exact absurd ⟨o, q⟩ hk
    have one : ∀ {b : Addr} {u : HO}, upd (fun _ => none) a (HO.frz { cls := .type "list", data := .seq us.toArray } (.lst (ns.map V.int))) b = some u → b = a ∧ u = HO.frz { cls := .type "list", data := .seq us.toArray } (.lst (ns.map V.int)) := fun {b u} z => by
      by_cases c : b = a
      · subst c
        rw [upd_same] at z
        exact ⟨rfl, (Option.some.inj z).symm⟩
      · rw [upd_ne c] at z
        cases z
    refine core (upd (fun _ => none) a (.frz { cls := .type "list", data := .seq us.toArray } (.lst (ns.map V.int)))) (fun b => ?_) (.inl (.inr ⟨{ cls := .type "list", data := .seq us.toArray }, upd_same⟩)) (fun b u z => ?_) (fun b z => ?_) fun _ => hk'
    · by_cases c : b = a
      · subst c; exact .inr ⟨_, _, upd_same⟩
      · exact .inl (upd_ne c)
    · obtain ⟨rfl, rfl⟩ := one z
      exact ⟨ha, by rw [List.length_map]; exact hl, us, _, rv, ha⟩
    · cases q : upd (fun _ => none) a (HO.frz { cls := .type "list", data := .seq us.toArray } (.lst (ns.map V.int))) b with
      | none => exact absurd q z
      | some u => exact (one q).1
end Kp
set_option Elab.async false
set_option linter.all false
set_option maxRecDepth 100000
set_option maxHeartbeats 4000000
namespace Kp
open PySem PySem.Spec PyProof.Rows L2

/-! ### the join -/
theorem own_subs {K : PySem.W.Frag} {C : Addr} (h1 : PySem.W.subIn K (.type "NoneType") (.ref C) = some false) (h2 : PySem.W.subIn K (.type "bool") (.ref C) = some false) (h3 : PySem.W.subIn K (.type "int") (.ref C) = some false) (h4 : PySem.W.subIn K (.type "str") (.ref C) = some false)
    (h5 : PySem.W.subIn K (.type "tuple") (.ref C) = some false) (h6 : PySem.W.subIn K (.type "list") (.ref C) = some false) (h7 : PySem.W.subIn K (.type "dict") (.ref C) = some false) : ∀ t, t ∈ tyNames → PySem.W.subIn K (.type t) (.ref C) = some false := by
  intro t h
  simp only [tyNames, List.mem_cons, List.not_mem_nil, or_false] at h
  rcases h with rfl | rfl | rfl | rfl | rfl | rfl | rfl <;> assumption
def spLaw (K : PySem.W.Frag) (f : List PV → Option RO) : Sp := fun vs H Q _ => ∃ (a : Addr) (ns : List Int), vs = [.ref a] ∧ SqL K H a (ns.map V.int) ∧ f [.frl ns] = some (.ret (.bl true)) ∧ ∀ H', Q (.bl true) H'
theorem spLaw_of {K : PySem.W.Frag} {cl : Nat → Addr} {f : List PV → Option RO} {vs : List V} {H : Hp} {Q : VK} {E : XK} (h : spLaw K f vs H Q E) : spP K cl 1 f vs H Q E := by
  obtain ⟨a, ns, rfl, hs, hf, k⟩ := h
  refine ⟨rfl, H, [.frl ns], .ret (.bl true), Same.refl _, .one (.frl hs), hf, ?_⟩
  intro v G' H' _ r
  cases r
  exact k H'
theorem FnG.imp {P : Program} {w : World} {K : PySem.W.Frag} {mg : Str → Option Value} {base : Heap} {CX : CXT} {k : Nat} {f : Addr} {fd : FuncData} {ps : List Str} {sp sp' : Sp} (F : FnG P w K mg base CX k f fd ps sp)
    (h : ∀ vs H Q E, sp' vs H Q E → sp vs H Q E) : FnG P w K mg base CX k f fd ps sp' :=
  ⟨fun vs H Q E q => F.len vs H Q E (h _ _ _ _ q), fun A outer s H args us vs Q E hg hr e0 hb r q => F.go A outer s H args us vs Q E hg hr e0 hb r (h _ _ _ _ q)⟩
end Kp
set_option Elab.async false
set_option linter.all false
set_option maxRecDepth 100000
set_option maxHeartbeats 2000000
namespace Kp
open PySem PyProof.Rows L2

/-! ### while -/
def whileM (c : M Bool) (m : M Fl) : Nat → M Fl
  | 0 => fun _ => none
  | n + 1 => fun S => match c S with
    | some (.ok true S1) => match m S1 with
      | none => none
      | some (.ok .nx S2) => whileM c m n S2
      | some (.ok .ct S2) => whileM c m n S2
      | some (.ok .bk S2) => some (.ok .nx S2)
      | some r => some r
    | some (.ok false S1) => some (.ok .nx S1)
    | some (.ex k fs S1) => some (.ex k fs S1)
    | none => none
section
variable {X : Cx} {cl : Nat → Addr} {W : WX} {pos : Pos}
theorem does_while {tc : TT} {tb : TS} {c : M Bool} {m : M Fl} {n : Nat} (hc : Does X.K cl W RB tc c) (hb : DoesS X.K cl W tb m) : DoesS X.K cl W (tWhile tc tb) (whileM c m n) := by
  intro F G H σ S r D st hm hp
  refine ⟨fun k σ' H' => ∃ G' S', Same G G' ∧ StOk X.K cl F G' H' σ' S' ∧ whileM c m k S' = some r, ⟨n, G, S, Same.refl _, st, hm⟩, ?_⟩
  rintro k σ' H' ⟨G', S', s', st', hl⟩
  cases k with
  | zero => cases hl
  | succ k =>
    have hl' : (match c S' with
      | some (.ok true S1) => match m S1 with
        | none => none
        | some (.ok .nx S2) => whileM c m k S2
        | some (.ok .ct S2) => whileM c m k S2
        | some (.ok .bk S2) => some (.ok .nx S2)
        | some r => some r
      | some (.ok false S1) => some (.ok .nx S1)
      | some (.ex k fs S1) => some (.ex k fs S1)
      | none => none) = some r := hl
    cases ec : c S' with
    | none => rw [ec] at hl'; cases hl'
    | some rc =>
      rw [ec] at hl'
      cases rc with
      | ex e fs S1 =>
        cases hl'
        refine hc F G' H' σ' S' _ _ st' ec ?_
        exact fun d gs G3 H3 s3 st3 a b => hp d gs σ' G3 H3 (s'.trans s3) st3 a b
      | ok b S1 =>
        refine hc F G' H' σ' S' _ _ st' ec ?_
        intro v G3 H3 s3 st3 rv
        have rv' : v = b := rv
        subst rv'
        cases v with
        | false =>
          cases hl'
          exact hp σ' G3 H3 (s'.trans s3) st3
        | true =>
          rw [if_pos rfl]
          refine ⟨fun σ5 H5 => ∃ G5 S5, Same G G5 ∧ StOk X.K cl F G5 H5 σ5 S5 ∧ whileM c m k S5 = some r, fun σ5 H5 q => ⟨k, Nat.lt_succ_self k, q⟩, ?_⟩
          dsimp only at hl'
          cases em : m S1 with
          | none => rw [em] at hl'; cases hl'
          | some rr =>
            rw [em] at hl'
            refine hb F G3 H3 σ' S1 _ _ st3 em ?_
            cases rr with
            | ok f S5 =>
              cases f with
              | nx => exact fun σ5 G5 H5 s5 st5 => ⟨G5, S5, (s'.trans s3).trans s5, st5, hl'⟩
              | ct => exact fun σ5 G5 H5 s5 st5 => ⟨G5, S5, (s'.trans s3).trans s5, st5, hl'⟩
              | bk =>
                cases hl'
                exact fun σ5 G5 H5 s5 st5 => hp σ5 G5 H5 ((s'.trans s3).trans s5) st5
              | rt y =>
                cases hl'
                exact fun v σ5 G5 H5 s5 st5 r5 => hp v σ5 G5 H5 ((s'.trans s3).trans s5) st5 r5
            | ex e fs S5 =>
              cases hl'
              exact fun d gs σ5 G5 H5 s5 st5 a b => hp d gs σ5 G5 H5 ((s'.trans s3).trans s5) st5 a b
theorem sm_while {c : Expr} {body : List Stmt} {mc : M Bool} {m : M Fl} (n : Nat) (hp : PassesOwn (model X.prog X.w) X.A X.env X.xe) (hc : TM X cl W c mc) (hb : SMs X cl W body m) : SM X cl W (.While c body [] pos) (whileM mc m n) := by
  obtain ⟨tc, pc, dc⟩ := hc
  obtain ⟨tb, pb, db⟩ := hb
  exact ⟨_, ps_while hp pc pb, does_while dc db⟩
end
end Kp
set_option Elab.async false
set_option linter.all false
set_option maxRecDepth 100000
set_option maxHeartbeats 2000000
namespace Kp
open PySem PyProof.Rows L2

/-! ### enumerate(tuple) -/
section
variable {prog : Program} {w : World} {A : Around} {E : Value → Shared → Prop} {s : Shared}
end
def enumP : Nat → List PV → List PV
  | _, [] => []
  | k, y :: ys => .tup [.int (k : Nat), y] :: enumP (k + 1) ys
section
variable {X : Cx} {cl : Nat → Addr} {W : WX} {pos : Pos}
def mEnum (m : M PV) : M (List PV) := bnd m fun x => match x with
  | .tup ys => ret (enumP 0 ys)
  | _ => fun _ => none
end
end Kp
set_option Elab.async false
set_option linter.all false
set_option maxRecDepth 100000
set_option maxHeartbeats 2000000
namespace Kp
open PySem PyProof.Rows L2

/-! ### match over a text -/
section
variable {X : Cx} {cl : Nat → Addr} {W : WX} {pos : Pos}
def putAt : Option Nat → Str → M Fl → M Fl
  | some k, u, m => bnd (put k (.str u)) fun _ => m
  | none, _, m => m
/-! #### computed -/
def mCases : List (List Str × Option Nat × M Fl) → Str → M Fl
  | [], _ => ret .nx
  | (ws, i, m) :: r, u => if u ∈ ws then (putAt i u m) else mCases r u
def mMatch (m : M PV) (mcs : List (List Str × Option Nat × M Fl)) : M Fl := bnd m fun x => match x with
  | .str u => mCases mcs u
  | _ => fun _ => none
end
end Kp
set_option Elab.async false
set_option linter.all false
set_option maxRecDepth 100000
set_option maxHeartbeats 2000000
namespace Kp
open PySem PyProof.Rows L2

section
variable {X : Cx} {cl : Nat → Addr} {W : WX} {pos : Pos}
/-! ### methods that change their object -/
def isObjM (c : Nat) (m : Str) : PV → Bool
  | .obj d fs => decide (d = c) && (fs.lookup m).isNone
  | _ => false
def isM (i c : Nat) (m : Str) (S : Sto) : Bool := match S[i]? with
  | some (some (.o x)) => isObjM c m x
  | some (some (.i x)) => isObjM c m x
  | _ => false
theorem isObjM_at {K : PySem.W.Frag} {G H : Hp} {c : Nat} {m : Str} {a : Addr} {x : PV} (q : OwnAt K cl G H a x) (h : isObjM c m x = true) : ∃ dx gs, H a = some (.ins (cl c) dx gs) ∧ gs.lookup m = none := by
  cases x <;> try (cases h; done)
  simp only [isObjM, Bool.and_eq_true, decide_eq_true_eq, Option.isNone_iff_eq_none] at h
  obtain ⟨rfl, h2⟩ := h
  obtain ⟨dx, gs, e, r⟩ := q
  exact ⟨dx, gs, e, r.lookup_none h2⟩
theorem isM_at {K : PySem.W.Frag} {F : Fr} {G H : Hp} {σ : L2.St} {S : Sto} {i c : Nat} {m : Str} (st : StOk K cl F G H σ S) (h : isM i c m S = true) : ∃ a dx gs, σ[i]? = some (some (V.ref a)) ∧ H a = some (.ins (cl c) dx gs) ∧ gs.lookup m = none := by
  unfold isM at h
  split at h
  · rename_i x e
    obtain ⟨a, ea, _, _, q⟩ := st.own i _ e
    obtain ⟨dx, gs, e1, e2⟩ := isObjM_at q h
    exact ⟨a, dx, gs, ea, e1, e2⟩
  · rename_i x e
    obtain ⟨a, ea, _, _, q⟩ := st.inn i _ e
    obtain ⟨dx, gs, e1, e2⟩ := isObjM_at q h
    exact ⟨a, dx, gs, ea, e1, e2⟩
  · cases h
def mMethI (i c : Nat) (m : Str) (f : PV → List PV → Option (PV × RO)) (ms : List (M PV)) : M PV := fun S => if isM i c m S = true then bnd (mArgs ms) (fun xs => mIn i (fun x => f x xs)) S else none
theorem does_methI {i c n : Nat} {m : Str} {g : PV → List PV → Option (PV × RO)} {t : TA} {ms : List (M PV)} (da : Does X.K cl W (RL X.K cl) t (mArgs ms)) (hl : ms.length + 1 = n) :
    Does X.K cl W (RV X.K cl) (tMethS (cl c) m (spI X.K cl n g) (WE W) (tVar i) t) (mMethI i c m g ms) := by
  intro F G H σ S rr Q st hm hp
  unfold mMethI at hm
  split at hm <;> try (cases hm; done)
  rename_i ho
  obtain ⟨a, dx, gs, ev, e1, e2⟩ := isM_at st ho
  refine ⟨_, ev, a, dx, gs, rfl, e1, e2, ?_⟩
  refine da.step' (R2 := RV X.K cl) st hm hp fun y S1 v G1 H1 e1 hm1 s1 st1 rv hp1 => ?_
  exact spI_use st1 rv (by rw [rv.length, mArgs_len e1]; exact hl) ev hm1 hp1
theorem em_methI {k i c : Nat} {f : Addr} {fd : FuncData} {ps : List Str} {n : Nat} {g : PV → List PV → Option (PV × RO)} {m : Str} {apos : Pos} {e o : Expr} {es : List Expr} {ms : List (M PV)} {pl : Sem Bool} (tk : L2N.Takes X W) (c' : Cls X.K (cl c)) (hm : Meth X.K (cl c) m f) (F : FnOk X.prog X.w X.K X.mg X.base (L2N.CX X.prog X.w) k f fd ps (spI X.K cl n g)) (hr : Room k X.A) (hb : Binds X.K fd ps [])
    (ho : PE X o (tVar i)) (ha : AM X cl W (e :: es) (mArgs ms)) (hl : ms.length + 1 = n := by rfl)
    (hst : starEach (e :: es) X.env = (false, eval e X.env) :: starEach es X.env := by rfl) (hpl : (backTo pos (starEach es X.env)).any (·.1) = false := by rfl)
    (ht : eval (.Call (.Attribute o m apos) (e :: es) [] pos) X.env = (do
      let ov ← eval o X.env
      standAt apos.atName
      let (f, first) ← holding [ov] (getMethod ov m pl)
      callWith pos f first (backTo pos (starEach (e :: es) X.env)) (backToKw pos (keywordEach [] X.env))) := by rfl) :
    EM X cl W (.Call (.Attribute o m apos) (e :: es) [] pos) (mMethI i c m g ms) := by
  obtain ⟨t, pa, da⟩ := ha
  exact ⟨_, pe_methS' (E := WE W) ho c' hm F hr hb (fun σ => L2N.passAt tk σ) pa hst hpl ht, does_methI da hl⟩
theorem em_methI0 {k i c : Nat} {f : Addr} {fd : FuncData} {ps : List Str} {g : PV → List PV → Option (PV × RO)} {m : Str} {apos : Pos} {o : Expr} {pl : Sem Bool} (tk : L2N.Takes X W) (c' : Cls X.K (cl c)) (hm : Meth X.K (cl c) m f) (F : FnOk X.prog X.w X.K X.mg X.base (L2N.CX X.prog X.w) k f fd ps (spI X.K cl 1 g)) (hr : Room k X.A) (hb : Binds X.K fd ps [])
    (ho : PE X o (tVar i))
    (ht : eval (.Call (.Attribute o m apos) [] [] pos) X.env = (do
      let ov ← eval o X.env
      standAt apos.atName
      let (f, first) ← holding [ov] (getMethod ov m pl)
      callWith pos f first (backTo pos (starEach [] X.env)) (backToKw pos (keywordEach [] X.env))) := by rfl) :
    EM X cl W (.Call (.Attribute o m apos) [] [] pos) (mMethI i c m g []) :=
  ⟨_, pe_methS0' (E := WE W) ho c' hm F hr hb (fun σ => L2N.passAt tk σ) ht, does_methI (t := tNil) (fun F G H σ S rr Q st hm hp => by
    cases hm
    exact hp _ _ _ (Same.refl _) st .nil) rfl⟩

/-! ### x = C(..), kept to be changed -/
theorem doesF_make {c n : Nat} {g : PV → List PV → Option (PV × RO)} {t : TA} {ms : List (M PV)} (da : Does X.K cl W (RL X.K cl) t (mArgs ms)) (hl : ms.length + 1 = n) : DoesF X.K cl W (tMakeS (cl c) (spI X.K cl n g) (WE W) t) (mMake c g ms) := by
  intro F G H σ S rr Q st hm hp
  refine da.stepF st hm hp fun ys S2 vs G2 H2 e2 hm2 s2 st2 rvs hp2 => ?_
  intro x dx hx hdx ne
  refine ⟨by rw [List.length_cons, rvs.length, mArgs_len e2]; exact hl, ?_⟩
  unfold mkM at hm2
  have st3 : StOk X.K cl F G2 (upd (upd H2 dx (.own x)) x (.ins (cl c) dx [])) σ S2 := (st2.allocO hdx).allocO (by rw [upd_ne (Ne.symm ne)]; exact hx)
  have hs : Same H2 (upd (upd H2 dx (.own x)) x (.ins (cl c) dx [])) := (same_new hdx).trans (same_new (by rw [upd_ne (Ne.symm ne)]; exact hx))
  have gx : G2 x = none := st2.free hx
  simp only [] at hm2
  cases ef : g (.obj c []) ys with
  | none => rw [ef] at hm2; cases hm2
  | some z =>
    obtain ⟨x', ro⟩ := z
    rw [ef] at hm2
    refine ⟨x, vs, G2, .obj c [], x', ys, ro, rfl, st3.ex, gx, ⟨dx, [], upd_same, .nil⟩, rvs, ef, ?_⟩
    have gro : ∀ {G' H' : Hp}, GrownI x G2 (upd (upd H2 dx (.own x)) x (.ins (cl c) dx [])) G' H' → Grown G2 H2 G' H' := fun {G' H'} gg => by
      refine ⟨gg.g, gg.gh, grownI_new gg hx hs, fun a o e => ?_⟩
      rcases gg.new a o e with y | y
      · exact .inl y
      · by_cases z1 : a = x
        · rw [z1]; exact .inr hx
        · rw [upd_ne z1] at y
          by_cases z2 : a = dx
          · rw [z2]; exact .inr hdx
          · rw [upd_ne z2] at y
            exact .inr y
    cases ro with
    | ret y =>
      cases y <;> try (cases hm2; done)
      cases hm2
      intro v G' H' gg q' r'
      cases r'
      refine ⟨rfl, ?_⟩
      have gx' : G' x = none := by
        cases z : G' x with
        | none => rfl
        | some u =>
          rcases gg.new x u z with y | y
          · rw [gx] at y; cases y
          · rw [upd_same] at y; cases y
      have gr := gro gg
      exact hp2 x G' H' gr.g (st2.grown gr) gx' (st2.free0 hx) (st2.rfree hx) (st2.newSlot hx) q'
    | exc c' fs =>
      cases hm2
      exact fun d gs G' H' gg q' a b => hp2 d gs G' H' gg.g (st2.grown (gro gg)) ⟨a.1, st2.free0 (hs.free a.2), st2.rfree (hs.free a.2)⟩ b
theorem fm_make {x : Str} {k c : Nat} {f : Addr} {fd : FuncData} {ps : List Str} {n : Nat} {g : PV → List PV → Option (PV × RO)} {p : Pos} {e : Expr} {es : List Expr} {ms : List (M PV)} (tk : L2N.Takes X W) (M : Mk X.K (cl c) f) (F : FnOk X.prog X.w X.K X.mg X.base (L2N.CX X.prog X.w) k f fd ps (spI X.K cl n g)) (hr : Room (k + 1) X.A) (hm : X.mg x = some (.ref (cl c)))
    (hb : Binds X.K fd ps []) (ha : AM X cl W (e :: es) (mArgs ms)) (hl : ms.length + 1 = n := by rfl) (hg : Gl X x := by rfl) (hdb : (x == ("__debug__" : Str)) = false := by decide) (he : starEach (e :: es) X.env = (false, eval e X.env) :: starEach es X.env := by rfl) (hpl : (backTo pos (starEach es X.env)).any (·.1) = false := by rfl) :
    FM X cl W (.Call (.Name x p) (e :: es) [] pos) (mMake c g ms) := by
  obtain ⟨t, pa, da⟩ := ha
  exact ⟨_, pe_makeS (E := WE W) M F hr hg hm hb (fun σ => L2N.passAt tk σ) pa hdb he hpl, doesF_make da hl⟩

/-! ### C(e, .., k = v, ..), keyword-only parameters all told -/
/-! ### self.f += n -/
def pIncF (c : Nat) (f : Str) (n : Int) : PV → Option PV
  | .obj d fs => if d = c ∧ fs.length < 100 then match fs.lookup f with
    | some (.int k) => some (.obj d (putFP f (.int (k + n)) fs))
    | _ => none
    else none
  | _ => none
def mIncF (i c : Nat) (f : Str) (n : Int) : M Fl := bnd (updO i (pIncF c f n)) fun _ => ret .nx
theorem sm_incF {o : Expr} {i c : Nat} {f : Str} {n : Nat} {j} {p2 pos' : Pos} (hc : Cls X.K (cl c)) (hn : NoAttr X.K (cl c) f) (ho : PE X o (tVar i)) :
    SM X cl W (.AugAssign (.Attribute o f pos') .Add (.Constant (.int n) j p2) pos) (mIncF i c f n) := by
  refine ⟨_, ps_fldaug ho pe_int in_add, fun F G H σ S r D st hm hp => ?_⟩
  rcases bnd_some hm with ⟨u, S3, e3, e4⟩ | ⟨c', fs, S3, e3, _⟩
  · cases e4
    obtain ⟨a, x, x', S', e5, ea, ga, q, ef, fin⟩ := updO_use st e3
    cases e5
    refine ⟨_, ea, ?_⟩
    unfold pIncF at ef
    cases x <;> try (cases ef; done)
    dsimp only at ef
    split at ef <;> try (cases ef; done)
    rename_i cc
    obtain ⟨rfl, hlen⟩ := cc
    split at ef <;> try (cases ef; done)
    rename_i k0 ek
    cases ef
    obtain ⟨dx, gs, eh, rf⟩ := q
    obtain ⟨w, ew, rw'⟩ := rf.lookup ek
    cases rw'
    refine ⟨a, _, dx, gs, _, rfl, eh, hc, hn, ew, ?_⟩
    exact ⟨_, _, rfl, rfl, dx, gs, eh, by rw [rf.length]; omega, hp σ G _ (Same.refl _) (fin _ ⟨dx, _, upd_same, repF_put (.int _) rf⟩)⟩
  · obtain ⟨a, x, x', S', e5, _⟩ := updO_use st e3
    cases e5

/-! ### split, insert, extend -/
def pSplit (x y : PV) : Option PV := match x, y with
  | .str a, .str b => if (b.length == 0) = false ∧ a.length + 2 ≤ sizeLine ∧ (Txt.split a b).all (fun z => decide (z.length ≤ sizeLine)) = true then some (.lst ((Txt.split a b).map PV.str)) else none
  | _, _ => none
theorem repL_strsB {K : PySem.W.Frag} {H : Hp} : ∀ {ys : List Str}, ys.all (fun z => decide (z.length ≤ sizeLine)) = true → RepL K cl H (ys.map V.str) (ys.map PV.str)
  | [], _ => .nil
  | y :: ys, h => by
    simp only [List.all_cons, Bool.and_eq_true, decide_eq_true_eq] at h
    exact .cons (.str _ h.1) (repL_strsB h.2)
theorem bs_split : BinS X.K cl (fun x y H Q => ∃ a b, x = .str a ∧ [y] = [V.str b] ∧ (b.length == 0) = false ∧ a.length + 2 ≤ sizeLine ∧ rNewStrs (Txt.split a b) H Q) pSplit := by
  intro G H v u x y z Q e rv ru hz k
  unfold pSplit at hz
  cases x <;> cases y <;> try (cases hz; done)
  dsimp only at hz
  split at hz <;> try (cases hz; done)
  rename_i c
  cases hz
  cases rv
  cases ru
  refine ⟨_, _, rfl, rfl, c.1, c.2.1, fun p hp => k _ _ (.inr ⟨p, _, hp, rfl, .lst upd_same ?_ (repL_strsB c.2.2)⟩)⟩
  rw [List.length_map]
  exact Nat.le_trans (PyProof.Rows.split_le _ _) c.2.1
theorem em_split {o e : Expr} {apos : Pos} {mo me : M PV} (ho : EM X cl W o mo) (he : EM X cl W e me) (hs : starEach [e] X.env = [(false, eval e X.env)] := by rfl) (hbase : attributeBase o "split" X.env (eval o X.env) = eval o X.env := by rfl) (hline : (apos.endLine == pos.line) = true := by rfl) :
    EM X cl W (.Call (.Attribute o "split" apos) [e] [] pos) (mBinS pSplit mo me) := em_m1 PySem.F.slot_str_split PySem.F.type_str_split mt_split bs_split ho he hs hbase hline
def fIns (x : PV) (xs : List PV) : Option (PV × PV) := match x, xs with
  | .lst ys, [.int i, y] => if ys.length < sizeLine ∧ 0 ≤ i ∧ i < 2 ^ 63 then some (.lst (ys.take i.toNat ++ [y] ++ ys.drop i.toNat), .non) else none
  | _, _ => none
theorem mto_ins : MtO X.K cl (fun x vs H Q => ∃ (l : Addr) (xs : List V) (i : Int) (y : V), x = .ref l ∧ vs = [.int i, y] ∧ H l = some (.lst xs) ∧ xs.length < sizeLine ∧ 0 ≤ i ∧ i < 2 ^ 63 ∧
    Q .non (upd H l (.lst (xs.take i.toNat ++ [y] ++ xs.drop i.toNat)))) fIns := by
  intro G H a x vs xs x' z Q e ga q rl h k
  unfold fIns at h
  split at h <;> try (cases h; done)
  split at h <;> try (cases h; done)
  rename_i ys i y hl
  cases h
  obtain ⟨ws, eh, hz, r⟩ := q
  cases rl with
  | cons ri rn =>
    cases ri
    cases rn with
    | cons ry rn =>
      cases rn
      have hw : ws.length < sizeLine := by rw [r.length]; exact hl.1
      exact ⟨a, ws, _, _, rfl, rfl, eh, hw, hl.2.1, hl.2.2, k _ _ ⟨_, upd_same, by
        rw [List.length_append, List.length_append, List.length_take, List.length_drop, List.length_singleton]
        omega, ((r.take _).append (.one ry)).append (r.drop _)⟩ .non⟩
def mIns (i : Nat) (m n : M PV) : M Fl := mDrop (mMt "list" i fIns [m, n])
theorem sm_ins {o e e2 : Expr} {apos p : Pos} {i : Nat} {m n : M PV} (ho : PE X o (tVar i)) (he : EM X cl W e m) (he2 : EM X cl W e2 n)
    (hbase : attributeBase o "insert" X.env (eval o X.env) = eval o X.env := by rfl)
    (hfew : ((backTo p (starEach [e, e2] X.env)).all (fun x => !x.1) && (backToKw p (keywordEach [] X.env)).all (fun x => x.1.isSome)
      && decide ([e, e2].length + ([] : List Keyword).length + (if ([] : List Keyword).isEmpty then 0 else 1) < 30)) = true := by rfl)
    (hline : (apos.endLine == p.line) = true := by rfl) (hs : starEach [e, e2] X.env = (false, eval e X.env) :: starEach [e2] X.env := by rfl) (hs2 : starEach [e2] X.env = (false, eval e2 X.env) :: starEach [] X.env := by rfl) (hplain : (backTo p (starEach [e2] X.env)).any (·.1) = false := by rfl)
    (hsw : swapsWith (.Call (.Attribute o "insert" apos) [e, e2] [] p) none pos.line X.env = pure false := by rfl) :
    SM X cl W (.Expr (.Call (.Attribute o "insert" apos) [e, e2] [] p) pos) (mIns i m n) :=
  sm_expr (em_mt PySem.F.plainAttrs_list PySem.F.slot_list_insert PySem.F.type_list_insert mt_insert mto_ins ho (am_cons he (am_cons he2 am_nil hs2) hs) hbase hfew hline hs hplain) hsw
def fExt (x : PV) (xs : List PV) : Option (PV × PV) := match x, xs with
  | .lst ys, [.lst zs] => if ys.length + zs.length ≤ sizeLine then some (.lst (ys ++ zs), .non) else none
  | _, _ => none
def mExt (i : Nat) (m : M PV) : M Fl := mDrop (mMt "list" i fExt [m])
def pCat (x y : PV) : Option PV := match x, y with
  | .lst a, .lst b => if a.length + b.length ≤ sizeLine then some (.lst (a ++ b)) else none
  | _, _ => none
theorem fm_cat {a b : Expr} {ma mb : M PV} (ha : EM X cl W a ma) (hb : EM X cl W b mb) : FM X cl W (.BinOp a .Add b pos) (mBin pCat ma mb) := by
  obtain ⟨ta, pa, da⟩ := ha
  obtain ⟨tb, pb, db⟩ := hb
  refine ⟨_, pe_op op_cat pa pb, fun F G H σ S rr Q st hm hp => ?_⟩
  refine da.stepF st hm hp fun x S1 v G1 H1 e1 hm1 s1 st1 rv hp1 => ?_
  refine db.stepF st1 hm1 hp1 fun y S2 u G2 H2 e2 hm2 s2 st2 ru hp2 => ?_
  obtain ⟨z, ez, rfl⟩ := lift_eq hm2
  have rv2 := rv.mono s2
  unfold pCat at ez
  cases x <;> cases y <;> try (cases ez; done)
  dsimp only at ez
  split at ez <;> try (cases ez; done)
  rename_i c
  cases ez
  cases rv2 with
  | @lst a1 vs1 xs1 hs z1 hr =>
    cases ru with
    | @lst a2 vs2 xs2 hs2 z2 hr2 =>
      have hz : (vs1 ++ vs2).length ≤ sizeLine := by rw [List.length_append, hr.length, hr2.length]; exact c
      exact ⟨_, _, _, _, rfl, rfl, st2.ex _ _ hs, st2.ex _ _ hs2, by rw [hr.length, hr2.length]; exact c, fun p hn => postF_new hp2 st2 hn ⟨_, upd_same, hz, hr.append hr2⟩⟩

/-! ### names of the text's top that hold a text, a tuple of texts -/
def TopStr (mg : Str → Option Value) (x u : Str) : Prop := ∃ t, mg x = some (.str u t)
def TopTup (K : PySem.W.Frag) (mg : Str → Option Value) (x : Str) (us : List Str) : Prop := ∃ (a : Addr) (o : Obj) (its : Array Value) (n : Nat), mg x = some (.ref a) ∧ K.lookup a = some o ∧ o.cls = .type "tuple" ∧ o.dict = none ∧ o.data = .seq its n ∧ its.size ≤ sizeLine ∧ Vals (us.map V.str) its.toList
theorem em_gtup {x : Str} {us : List Str} (h : TopTup X.K X.mg x us) (hl : us.all (fun z => decide (z.length ≤ sizeLine)) = true := by decide) (hg : Gl X x := by rfl) (hd : (x == ("__debug__" : Str)) = false := by decide) : EM X cl W (.Name x pos) (mK (.tup (us.map PV.str))) := by
  obtain ⟨a, o, its, n, e, h1, h2, h3, h4, h5, h6⟩ := h
  refine ⟨_, pe_glob (v := .ref a) hg e rfl hd, fun F G H σ S r' Q st hm hp => ?_⟩
  cases hm
  refine hp _ G H (Same.refl _) st (.tup (.inr ⟨o, its, n, h1, h2, h3, h4, h5, h6⟩) ?_ (repL_strsB hl))
  rw [h6.length]
  exact h5
end

/-! ### a def with keyword-only defaults -/
section
variable {P : Program} {w : World} {K : PySem.W.Frag} {mg : Str → Option Value} {base : Heap} {cl : Nat → Addr}
end
end Kp
set_option Elab.async false
set_option linter.all false
set_option maxRecDepth 100000
set_option maxHeartbeats 2000000
namespace Kp
open PySem PyProof.Rows L2
def ocF (k : Nat) : Nat → Option Bool := fun c => if c = k then some false else none
end Kp
set_option Elab.async false
set_option linter.all false
set_option maxRecDepth 100000
set_option maxHeartbeats 2000000
namespace Kp
open PySem PyProof.Rows L2

/-! ### a def that changes its first parameter and gives a fresh object -/
section
variable {P : Program} {w : World} {K : PySem.W.Frag} {mg : Str → Option Value} {base : Heap} {cl : Nat → Addr}
end
section
variable {X : Cx} {cl : Nat → Addr} {W : WX} {pos : Pos}
/-! ### defs as values -/
/-! ### o[i] by the class's own __getitem__ -/
end
end Kp
set_option Elab.async false
set_option linter.all false
set_option maxRecDepth 100000
set_option maxHeartbeats 2000000
namespace Kp
open PySem PyProof.Rows L2
end Kp
set_option Elab.async false
set_option linter.all false
set_option maxRecDepth 100000
set_option maxHeartbeats 2000000
namespace Kp
open PySem PyProof.Rows L2
section
variable {X : Cx} {cl : Nat → Addr} {W : WX} {pos : Pos}
/-! ### f() -/
end
end Kp
set_option Elab.async false
set_option linter.all false
set_option maxRecDepth 100000
set_option maxHeartbeats 2000000
namespace Kp
open PySem PyProof.Rows L2

/-! ### c.index(x) -/
def eqsD (ds : List PyData) (d : PyData) : List Bool := ds.map fun z => PyData.eqv z d
theorem readsAll_get {h : Heap} : ∀ {vs : List Value} {ds : List PyData} {bs : List Addr}, ReadsAll h vs ds bs → vs.length = ds.length ∧ ∀ (j : Nat) (h1 : j < vs.length) (h2 : j < ds.length), ∃ cs, Reads h vs[j] ds[j] cs
  | _, _, _, .nil => ⟨rfl, fun j h1 _ => absurd h1 (Nat.not_lt_zero _)⟩
  | _, _, _, .cons r rs => by
    obtain ⟨l, g⟩ := readsAll_get rs
    refine ⟨by rw [List.length_cons, List.length_cons, l], fun j h1 h2 => ?_⟩
    cases j with
    | zero => exact ⟨_, r⟩
    | succ j => exact g j (Nat.lt_of_succ_lt_succ h1) (Nat.lt_of_succ_lt_succ h2)
theorem plainAll_get : ∀ {ds : List PyData} (j : Nat) (h : j < ds.length), PyData.plainAll ds = true → ds[j].plain = true ∧ ds[j].depth ≤ PyData.depthAll ds
  | d :: ds, 0, _, p => by
    unfold PyData.plainAll at p
    rw [Bool.and_eq_true] at p
    refine ⟨p.1, ?_⟩
    unfold PyData.depthAll
    exact Nat.le_max_left _ _
  | d :: ds, j + 1, h, p => by
    unfold PyData.plainAll at p
    rw [Bool.and_eq_true] at p
    obtain ⟨a, b⟩ := plainAll_get j (Nat.lt_of_succ_lt_succ h) p.2
    refine ⟨a, ?_⟩
    unfold PyData.depthAll
    exact Nat.le_trans b (Nat.le_max_right _ _)
theorem itemsEq_eqs {A : Around} {s : Shared} {vs : List Value} {ds : List PyData} {bs as : List Addr} {x : Value} {d : PyData} (r : ReadsAll s.heap vs ds bs) (rx : Reads s.heap x d as) (p : PyData.plainAll ds = true) (px : d.plain = true)
    (hu : A.units + 61 < cLine) (hz : min (PyData.depthAll ds) d.depth ≤ 60) : SeqAt.ItemsEq A s vs (eqsD ds d) x true := by
  obtain ⟨l, g⟩ := readsAll_get r
  refine ⟨by unfold eqsD; rw [List.length_map]; exact l, fun j h1 h2 => ?_⟩
  have h3 : j < ds.length := by rw [← l]; exact h1
  obtain ⟨cs, rj⟩ := g j h1 h3
  obtain ⟨pj, dj⟩ := plainAll_get j h3 p
  have e : (decide ((eqsD ds d)[j] = true)) = PyData.eqv ds[j] d := by
    simp only [eqsD, List.getElem_map, Bool.decide_eq_true]
  rw [e]
  exact SeqAt.eqAt_plain _ _ A s _ _ _ _ rj rx pj px (by omega)
section
variable {X : Cx} {cl : Nat → Addr} {W : WX} {pos : Pos}
def rIxC (K : PySem.W.Frag) (b : Bool) : V → List V → Hp → VK → Prop := fun x xs H Q => ∃ (y : V) (d : PyData) (ds : List PyData), xs = [y] ∧ Dp K H x (if b then .tuple ds else .list ds) ∧ Dp K H y d ∧ PyData.plainAll ds = true ∧ d.plain = true ∧ min (PyData.depthAll ds) d.depth ≤ 60 ∧
  ds.length ≤ sizeLine ∧ true ∈ eqsD ds d ∧ Q (.int ((eqsD ds d).idxOf true : Nat)) H
theorem mt_ixL (hu : X.A.units + 64 < cLine) : MtR X "list.index" (rIxC X.K false) := by
  intro pins s σ H x xs v us Q I rx rs h
  obtain ⟨y, d, ds, rfl, hx, hy, p, px, hz, hl, hm, q⟩ := h
  obtain ⟨u, rfl, ru⟩ := vals1 rs
  obtain ⟨as, r1⟩ := Dp.reads I _ x v hx rx
  obtain ⟨bs, r2⟩ := Dp.reads I d y u hy ru
  rw [if_neg Bool.false_ne_true] at r1
  cases r1 with
  | @list l o vs n ys cs k1 k2 k3 k4 =>
    have il : s.heap.IsList l vs := ⟨_, k1, k2, _, k3⟩
    have il2 : s.heap.IsList l vs.toList.toArray := by rw [Array.toArray_toList]; exact il
    refine SeqAt.call_list_index il2 (itemsEq_eqs (A := X.A.in1) k4 r2 p px (by show X.A.units + 1 + 61 < _; omega) hz) (by unfold eqsD; rw [List.length_map]; exact hl) hm ?_
    exact ⟨.int _, H, I.tok _, ⟨_, rfl⟩, q⟩
theorem mt_ixT (hu : X.A.units + 64 < cLine) : MtR X "tuple.index" (rIxC X.K true) := by
  intro pins s σ H x xs v us Q I rx rs h
  obtain ⟨y, d, ds, rfl, hx, hy, p, px, hz, hl, hm, q⟩ := h
  obtain ⟨u, rfl, ru⟩ := vals1 rs
  obtain ⟨as, r1⟩ := Dp.reads I _ x v hx rx
  obtain ⟨bs, r2⟩ := Dp.reads I d y u hy ru
  rw [if_pos rfl] at r1
  cases r1 with
  | @tuple l o vs n ys cs k1 k2 k3 k4 =>
    have il : s.heap.IsTuple l vs := ⟨_, k1, k2, _, k3⟩
    have il2 : s.heap.IsTuple l vs.toList.toArray := by rw [Array.toArray_toList]; exact il
    refine SeqAt.call_tuple_index il2 (itemsEq_eqs (A := X.A.in1) k4 r2 p px (by show X.A.units + 1 + 61 < _; omega) hz) hm ?_
    exact ⟨.int _, H, I.tok _, ⟨_, rfl⟩, q⟩
def tIdx (K : PySem.W.Frag) (to te : TE) : TE := fun σ H Q => to σ H fun x H1 => ((∃ a xs, x = .ref a ∧ SqL K H1 a xs) ∧ te σ H1 fun y H2 => rIxC K false x [y] H2 Q) ∨ ((∃ a xs, x = .ref a ∧ TupAt K H1 a xs) ∧ te σ H1 fun y H2 => rIxC K true x [y] H2 Q)
theorem tupAt_dict {pins : List (Addr × Obj)} {σ : L2.St} {H : Hp} {s : Shared} {a : Addr} {xs : List V} (I : Inv X pins σ H s) (h : TupAt X.K H a xs) : ∃ o, s.heap.get? a = some o ∧ o.cls = .type "tuple" ∧ o.dict = none := by
  rcases h with ⟨o, h1, h⟩ | ⟨o, its, n, h1, h2, h3, _⟩
  · obtain ⟨e, _, us, _, o', e', c, _⟩ := I.hok a _ h
    rw [e] at e'
    cases e'
    exact ⟨o, e, c, h1⟩
  · exact ⟨o, I.kIn a o h1, h2, h3⟩
theorem pe_indexOf {o e : Expr} {apos : Pos} {to te : TE} (hu : X.A.units + 64 < cLine) (ho : PE X o to) (he : PE X e te)
    (hbase : attributeBase o "index" X.env (eval o X.env) = eval o X.env := by rfl)
    (hfew : ((backTo pos (starEach [e] X.env)).all (fun x => !x.1) && (backToKw pos (keywordEach [] X.env)).all (fun x => x.1.isSome)
      && decide ([e].length + ([] : List Keyword).length + (if ([] : List Keyword).isEmpty then 0 else 1) < 30)) = true := by rfl)
    (hline : (apos.endLine == pos.line) = true := by rfl) (hs : starEach [e] X.env = [(false, eval e X.env)] := by rfl) :
    PE X (.Call (.Attribute o "index" apos) [e] [] pos) (tIdx X.K to te) := by
  have ha := pa_cons he pa_nil hs
  refine ⟨fun pins s σ H Q I h => ?_⟩
  refine wpAny_Call_method_late hbase hfew hline rfl (thn (ho.run pins s σ H _ I h) fun v s1 ⟨x, H1, I1, r1, q1⟩ => ?_)
  rcases q1 with ⟨⟨a, xs, rfl, hq⟩, q1⟩ | ⟨⟨a, xs, rfl, hq⟩, q1⟩
  · obtain rfl : v = Value.ref a := r1
    obtain ⟨its, _, pl, _⟩ := I1.list hq
    refine ⟨"list", "list.index", PySem.F.plainAttrs_list, PySem.F.slot_list_index, PySem.F.type_list_index, pl.isList.typeIs, fun b eb => ?_, ?_⟩
    · cases eb
      obtain ⟨ob, n, e1, c, hd, _⟩ := pl
      exact ⟨ob, e1, hd⟩
    · have hA := ha.run pos pins s1 σ H1 (fun vs H2 => rIxC X.K false (.ref a) vs H2 Q) I1 q1
      rw [hs] at hA ⊢
      exact Calls.callWith_builtin rfl (Calls.evalArgs_plain (thn hA fun us s2 ⟨vs, H2, I2, r2, q2⟩ => mt_ixL hu pins s2 σ H2 (.ref a) vs _ us Q I2 (by exact rfl) r2 q2))
  · obtain rfl : v = Value.ref a := r1
    obtain ⟨ob, e1, c, hd⟩ := tupAt_dict I1 hq
    refine ⟨"tuple", "tuple.index", PySem.F.plainAttrs_tuple, PySem.F.slot_tuple_index, PySem.F.type_tuple_index, ⟨ob, e1, c⟩, fun b eb => ?_, ?_⟩
    · cases eb
      exact ⟨ob, e1, hd⟩
    · have hA := ha.run pos pins s1 σ H1 (fun vs H2 => rIxC X.K true (.ref a) vs H2 Q) I1 q1
      rw [hs] at hA ⊢
      exact Calls.callWith_builtin rfl (Calls.evalArgs_plain (thn hA fun us s2 ⟨vs, H2, I2, r2, q2⟩ => mt_ixT hu pins s2 σ H2 (.ref a) vs _ us Q I2 (by exact rfl) r2 q2))
def idxB (ys : List PV) (x : PV) : Option PV := if PV.isDL ys && PV.isD x && decide (min (PyData.depthAll (PV.datL ys)) (PV.dat x).depth ≤ 60) && (eqsD (PV.datL ys) (PV.dat x)).contains true then some (.int ((eqsD (PV.datL ys) (PV.dat x)).idxOf true : Nat)) else none
def asSq : PV → Option (List PV)
  | .tup ys => some ys
  | .lst ys => some ys
  | _ => none
def mIndexOf (mo me : M PV) : M PV := bnd mo fun c => bnd (lift (asSq c)) fun ys => bnd me fun x => lift (idxB ys x)
theorem datL_len : ∀ xs : List PV, (PV.datL xs).length = xs.length
  | [] => rfl
  | x :: xs => by unfold PV.datL; rw [List.length_cons, List.length_cons, datL_len xs]
theorem em_indexOf {o e : Expr} {apos : Pos} {mo me : M PV} (hu : X.A.units + 64 < cLine) (ho : EM X cl W o mo) (he : EM X cl W e me)
    (hbase : attributeBase o "index" X.env (eval o X.env) = eval o X.env := by rfl)
    (hfew : ((backTo pos (starEach [e] X.env)).all (fun x => !x.1) && (backToKw pos (keywordEach [] X.env)).all (fun x => x.1.isSome)
      && decide ([e].length + ([] : List Keyword).length + (if ([] : List Keyword).isEmpty then 0 else 1) < 30)) = true := by rfl)
    (hline : (apos.endLine == pos.line) = true := by rfl) (hs : starEach [e] X.env = [(false, eval e X.env)] := by rfl) :
    EM X cl W (.Call (.Attribute o "index" apos) [e] [] pos) (mIndexOf mo me) := by
  obtain ⟨to, po, do_⟩ := ho
  obtain ⟨te, pe, de⟩ := he
  refine ⟨_, pe_indexOf hu po pe hbase hfew hline hs, fun F G H σ S rr Q st hm hp => ?_⟩
  refine do_.step (R2 := RV X.K cl) st hm hp fun c S1 v G1 H1 hm1 s1 st1 rv hp1 => ?_
  obtain ⟨ys, ey, hm1⟩ := lift_bnd hm1
  cases c <;> try (cases ey; done)
  all_goals
    cases ey
  · cases rv with
    | tup hs2 hz hr =>
      refine .inr ⟨⟨_, _, rfl, hs2.mono st1.ex⟩, ?_⟩
      refine de.step (R2 := RV X.K cl) st1 hm1 hp1 fun x S2 u G2 H2 hm2 s2 st2 ru hp2 => ?_
      obtain ⟨z, ez, rfl⟩ := lift_eq hm2
      unfold idxB at ez
      split at ez <;> try (cases ez; done)
      rename_i c
      simp only [Bool.and_eq_true, decide_eq_true_eq, List.contains_iff_mem] at c
      cases ez
      have rt : Rep X.K cl G2 _ (.tup ys) := .tup (hs2.mono s2) hz (hr.mono s2)
      have dp := (rt.mono st2.ex).dp (by unfold PV.isD; exact c.1.1.1)
      unfold PV.dat at dp
      exact ⟨_, _, _, rfl, by rw [if_pos rfl]; exact dp, (ru.mono st2.ex).dp c.1.1.2, datL_plain ys, dat_plain x, c.1.2, by rw [datL_len, ← hr.length]; exact hz, c.2, hp2 _ _ _ (Same.refl _) st2 (.int _)⟩
  · cases rv with
    | lst hs2 hz hr =>
      refine .inl ⟨⟨_, _, rfl, SqL.of (st1.ex _ _ hs2)⟩, ?_⟩
      refine de.step (R2 := RV X.K cl) st1 hm1 hp1 fun x S2 u G2 H2 hm2 s2 st2 ru hp2 => ?_
      obtain ⟨z, ez, rfl⟩ := lift_eq hm2
      unfold idxB at ez
      split at ez <;> try (cases ez; done)
      rename_i c
      simp only [Bool.and_eq_true, decide_eq_true_eq, List.contains_iff_mem] at c
      cases ez
      have rt : Rep X.K cl G2 _ (.lst ys) := .lst (s2 _ _ hs2) hz (hr.mono s2)
      have dp := (rt.mono st2.ex).dp (by unfold PV.isD; exact c.1.1.1)
      unfold PV.dat at dp
      exact ⟨_, _, _, rfl, by rw [if_neg Bool.false_ne_true]; exact dp, (ru.mono st2.ex).dp c.1.1.2, datL_plain ys, dat_plain x, c.1.2, by rw [datL_len, ← hr.length]; exact hz, c.2, hp2 _ _ _ (Same.refl _) st2 (.int _)⟩
/-! ### min(a, b), max(a, b) -/
def pMin2 : List PV → Option PV
  | [.int i, .int j] => some (.int (if j < i then j else i))
  | _ => none
def pMax2 : List PV → Option PV
  | [.int i, .int j] => some (.int (if j > i then j else i))
  | _ => none
end
end Kp
set_option Elab.async false
set_option linter.all false
set_option maxRecDepth 100000
set_option maxHeartbeats 2000000
namespace Kp
open PySem PyProof.Rows L2

/-! ### zip(tuple, tuple) -/
def zipP : List PV → List PV → List PV
  | x :: xs, y :: ys => .tup [x, y] :: zipP xs ys
  | _, _ => []
section
variable {X : Cx} {cl : Nat → Addr} {W : WX} {pos : Pos}
def mZip (ms : List (M PV)) : M (List PV) := bnd (mArgs ms) fun xs => match xs with
  | [.tup xs, .tup ys] => ret (zipP xs ys)
  | _ => fun _ => none
end
end Kp
set_option Elab.async false
set_option linter.all false
set_option maxRecDepth 100000
set_option maxHeartbeats 2000000
namespace Kp
open PySem PyProof.Rows L2

/-! ### calls that leave out defaults; constants of any form -/
section
variable {X : Cx} {cl : Nat → Addr} {W : WX} {pos : Pos}
def mCallD (f : List PV → Option RO) (ds : List PV) (ms : List (M PV)) : M PV := bnd (mArgs ms) fun xs => roM (f (xs ++ ds))
def TopPV (K : PySem.W.Frag) (cl : Nat → Addr) (mg : Str → Option Value) (x : Str) (y : PV) : Prop := ∃ (v : V) (u : Value), mg x = some u ∧ RelV v u ∧ ∀ H, Rep K cl H v y
theorem rep_ktup {K : PySem.W.Frag} {a : Addr} {its : Array Value} {n : Nat} {sl : Array (Option Value)} {vs : List V} {ys : List PV} (h : K.lookup a = some ⟨.type "tuple", none, .seq its n, sl⟩) (hz : its.size ≤ sizeLine) (r : Vals vs its.toList) (rl : ∀ H, RepL K cl H vs ys) (H : Hp) : Rep K cl H (.ref a) (.tup ys) :=
  .tup (.inr ⟨_, its, n, h, rfl, rfl, rfl, hz, r⟩) (by rw [r.length]; exact hz) (rl H)
end
end Kp
set_option Elab.async false
set_option linter.all false
set_option maxRecDepth 100000
set_option maxHeartbeats 2000000
namespace Kp
open PySem PyProof.Rows L2

/-! ### a, b = x, y and a, b, c = x, y, z -/
def puts : List Nat → List PV → M Unit
  | [], [] => ret ()
  | i :: is, x :: xs => bnd (put i x) fun _ => puts is xs
  | _, _ => fun _ => none
def mPar (is : List Nat) (ms : List (M PV)) : M Fl := bnd (mArgs ms) fun xs => bnd (puts is xs) fun _ => ret .nx
section
variable {X : Cx} {cl : Nat → Addr} {W : WX} {pos : Pos}
end
end Kp
set_option Elab.async false
set_option linter.all false
set_option maxRecDepth 100000
set_option maxHeartbeats 4000000
namespace Kp
open PySem PySem.Spec PyProof.Rows L2

/-! ### a run has one end -/
end Kp
set_option Elab.async false
set_option linter.all false
set_option maxRecDepth 100000
set_option maxHeartbeats 4000000
namespace Kp
open PySem PySem.Spec PyProof.Rows L2

/-! ### an own list is lent to a def whose first parameter is a list, of which the first item is a list that stays -/
end Kp
set_option Elab.async false
set_option linter.all false
set_option maxRecDepth 100000
set_option maxHeartbeats 4000000
namespace Kp
open PySem PySem.Spec PyProof.Rows L2

/-! ### x(o, e.., z): o is changed, the own list z is lent -/
open Classical in
section
variable {X : Cx} {cl : Nat → Addr} {W : WX} {pos : Pos}
end
end Kp
set_option Elab.async false
set_option linter.all false
set_option maxRecDepth 100000
set_option maxHeartbeats 4000000
namespace Kp
open PySem PySem.Spec PyProof.Rows L2

/-! ### x += e, whole numbers -/
def intAt (i : Nat) (S : Sto) : Option Int := match S[i]? with
  | some (some (.p (.int a))) => some a
  | _ => none
def mAugI (i : Nat) (g : Int → Int → Int) (m : M PV) : M Fl := fun S => match intAt i S with
  | some a => bnd m (fun y => match y with
    | .int b => bnd (put i (.int (g a b))) fun _ => ret .nx
    | _ => fun _ => none) S
  | none => none
section
variable {X : Cx} {cl : Nat → Addr} {W : WX} {pos : Pos}
end
end Kp
set_option Elab.async false
set_option linter.all false
set_option maxRecDepth 100000
set_option maxHeartbeats 4000000
namespace HT
open PySem PySem.Spec PyProof.Rows L2
section
variable {prog : Program} {w : World} {A : Around} {E : Value → Shared → Prop} {s : Shared}
end
end HT
namespace Kp
open PySem PySem.Spec PyProof.Rows L2
/-! ### t[::-1] -/
section
variable {X : Cx} {cl : Nat → Addr} {W : WX} {pos : Pos}
def revT (x y : PV) : Option PV := match x, y with
  | .tup xs, .int (-1) => some (.tup xs.reverse)
  | _, _ => none
end
end Kp
set_option Elab.async false
set_option linter.all false
set_option maxRecDepth 100000
set_option maxHeartbeats 4000000
namespace Kp
open PySem PySem.Spec PyProof.Rows L2
/-! ### in the suite of an except: isinstance(x, (C, D)) -/
section
variable {X : Cx} {cl : Nat → Addr} {W : WX} {pos : Pos} {a d : Addr} {c : Nat} {oe : Obj} {pn : List (Addr × Obj)}
inductive KitL (K : PySem.W.Frag) (t : Value) : List V → List Value → Bool → Prop
  | nil : KitL K t [] [] false
  | cons {v : V} {vs : List V} {u : Value} {us : List Value} {b1 b : Bool} : ClsV v u → PySem.W.kitOne K t u = some b1 → KitL K t vs us b → KitL K t (v :: vs) (u :: us) (b1 || b)
theorem KitL.paired {K : PySem.W.Frag} {t : Value} {vs : List V} {us : List Value} {b : Bool} (h : KitL K t vs us b) : Paired ClsV vs us := by
  induction h with
  | nil => exact .nil
  | cons h1 _ _ ih => exact .cons h1 ih
theorem KitL.any {K : PySem.W.Frag} {t : Value} {vs : List V} {us : List Value} {b : Bool} (h : KitL K t vs us b) : PySem.W.kitAny K t us = some b := by
  induction h with
  | nil => rfl
  | @cons v vs u us b1 b h1 h2 h3 ih =>
    refine kitAny_cons h2 (fun q => ?_) fun q => ?_
    · subst q
      exact ih
    · subst q
      rfl
end
end Kp
set_option Elab.async false
set_option linter.all false
set_option maxRecDepth 100000
set_option maxHeartbeats 4000000
namespace Kp
open PySem PySem.Spec PyProof.Rows L2
/-! ### t * n -/
section
variable {X : Cx}
theorem repL_rep {K : PySem.W.Frag} {cl : Nat → Addr} {H : Hp} {vs : List V} {xs : List PV} (h : RepL K cl H vs xs) : ∀ m : Nat, RepL K cl H (List.replicate m vs).flatten (List.replicate m xs).flatten
  | 0 => .nil
  | m + 1 => by
    rw [List.replicate_succ, List.replicate_succ, List.flatten_cons, List.flatten_cons]
    have app : ∀ {us : List V} {ys : List PV}, RepL K cl H us ys → RepL K cl H (us ++ (List.replicate m vs).flatten) (ys ++ (List.replicate m xs).flatten) := fun {us ys} h2 => by
      induction us generalizing ys with
      | nil => cases h2; exact repL_rep h m
      | cons a us ih => cases h2 with | cons h3 h4 => exact .cons h3 (ih h4)
    exact app h
end
end Kp
set_option Elab.async false
set_option linter.all false
set_option maxRecDepth 100000
set_option maxHeartbeats 4000000
namespace Kp
open PySem PySem.Spec PyProof.Rows L2
/-! ### s.upper() -/
section
variable {X : Cx} {cl : Nat → Addr} {W : WX} {pos : Pos}
end
end Kp
set_option Elab.async false
set_option linter.all false
set_option maxRecDepth 100000
set_option maxHeartbeats 4000000
namespace Kp
open PySem PySem.Spec PyProof.Rows L2
section
variable {X : Cx} {cl : Nat → Addr} {W : WX}
end
end Kp
set_option Elab.async false
set_option linter.all false
set_option maxRecDepth 100000
set_option maxHeartbeats 2000000
namespace Kp
open PySem PyProof.Rows L2

/-! ### zip(tuple, list) -/
section
variable {prog : Program} {w : World} {A : Around} {E : Value → Shared → Prop} {s : Shared}
end
section
variable {X : Cx} {cl : Nat → Addr} {W : WX} {pos : Pos}
end
end Kp
set_option Elab.async false
set_option linter.all false
set_option maxRecDepth 100000
set_option maxHeartbeats 2000000
namespace Kp
open PySem PySem.Spec PyProof.Rows L2

/-! ### a comprehension with two fors -/
def lcGo2 (vs vs1 : List Nat) (g : PV → Sto → Option Sto) (mt : M Bool) (mi1 : M (List PV)) (g1 : PV → Sto → Option Sto) (mt1 : M Bool) (me : M PV) : List PV → Sto → Option (List PV × Sto)
  | [], S => some ([], S)
  | y :: ys, S => match g y S with
    | none => none
    | some S1 => match mt S1 with
      | some (.ok true S2) => match mi1 S2 with
        | some (.ok ys1 S3) => match lcGo vs1 g1 mt1 me ys1 (wipeS S3 vs1) with
          | some (zs1, S4) => match lcGo2 vs vs1 g mt mi1 g1 mt1 me ys (wipeS S4 vs) with
            | some (zs, S5) => some (zs1 ++ zs, S5)
            | none => none
          | none => none
        | _ => none
      | some (.ok false S2) => lcGo2 vs vs1 g mt mi1 g1 mt1 me ys (wipeS S2 vs)
      | _ => none
def mLc2 (vs vs1 : List Nat) (mi : M (List PV)) (g : PV → Sto → Option Sto) (mt : M Bool) (mi1 : M (List PV)) (g1 : PV → Sto → Option Sto) (mt1 : M Bool) (me : M PV) : M PV := fun S => match mi S with
  | some (.ok ys S1) => if plainAt S1 vs = true then match lcGo2 vs vs1 g mt mi1 g1 mt1 me ys (wipeS S1 vs) with
      | some (zs, S2) => if zs.length ≤ sizeLine then some (.ok (.lst zs) (backS S1 S2 vs)) else none
      | none => none
    else none
  | _ => none
theorem wipe_sub {σ : L2.St} {vs vs1 : List Nat} (h : ∀ i ∈ vs1, i ∈ vs) : wipe (wipe σ vs1) vs = wipe σ vs := by
  refine List.ext_getElem? fun i => ?_
  rw [wipe_get, wipe_get, wipe_get, wipe_length]
  by_cases c : i ∈ vs
  · rw [if_pos c, if_pos c]
  · rw [if_neg c, if_neg c, if_neg fun q => c (h i q)]
section
variable {X : Cx} {cl : Nat → Addr} {W : WX} {pos : Pos}
theorem does_lc2 {vs vs1 : List Nat} {wi wi1 : TI} {tg tg1 : TG} {tt tt1 : TT} {te : TE} {mi mi1 : M (List PV)} {g g1 : PV → Sto → Option Sto} {mt mt1 : M Bool} {me : M PV} (hv : ∀ i ∈ vs1, i ∈ vs) (hi : DoesI X.K cl W wi mi) (hg : DoesG X.K cl tg g) (hgi : gIn vs tg)
    (ht : Does X.K cl W0 RB tt mt) (hi1 : DoesI X.K cl W0 wi1 mi1) (hg1 : DoesG X.K cl tg1 g1) (hgi1 : gIn vs1 tg1) (ht1 : Does X.K cl W0 RB tt1 mt1) (he : Does X.K cl W0 (RV X.K cl) te me) : Does X.K cl W (RV X.K cl) (tLc2 wi tg tt wi1 tg1 tt1 te vs vs1) (mLc2 vs vs1 mi g mt mi1 g1 mt1 me) := by
  intro F G H σ S r Q st hm hp
  unfold mLc2 at hm
  split at hm <;> try (cases hm; done)
  rename_i ys S1 e1
  split at hm <;> try (cases hm; done)
  rename_i hpl
  split at hm <;> try (cases hm; done)
  rename_i zs S2 eg
  split at hm <;> try (cases hm; done)
  rename_i hzs
  cases hm
  refine hi F G H σ S ys S1 _ st e1 fun J G1 H1 s1 st1 hw => ?_
  intro D hD
  have plain : ∀ i ∈ vs, ∀ y, S1[i]? = some (some y) → ∃ x, y = .p x := fun i hi y e => by
    have := List.all_eq_true.mp hpl i hi
    rw [e] at this
    cases y with
    | p x => exact ⟨x, rfl⟩
    | o x => cases this
    | i x => cases this
  have hio : ∀ i ∈ vs, F.io i = none := fun i hi => by
    cases q : F.io i with
    | none => rfl
    | some a =>
      obtain ⟨x, hx⟩ := st1.io i a q
      have := List.all_eq_true.mp hpl i hi
      rw [hx] at this
      cases this
  have hio1 : ∀ i ∈ vs1, F.io i = none := fun i h => hio i (hv i h)
  have fr := st1.rfree hD
  have stw := st1.wiped (σ := σ) (vs := vs) rfl hio
  have hfresh : ∀ (i : Nat) (x : PV), (wipeS S1 vs)[i]? = some (some (.o x)) → (wipe σ vs)[i]? ≠ some (some (V.ref D)) := fun i x e z => by
    obtain ⟨a, ea, _, _, q⟩ := stw.own i x e
    rw [z] at ea
    cases ea
    obtain ⟨o, ho⟩ := q.there
    rw [hD] at ho
    cases ho
  have st2 := stw.rsvNew (o := .lst []) hD hfresh
  refine ⟨fun i n H' => n + i = ys.length ∧ ∃ (G' : Hp) (S' : Sto) (acc : List V) (done rest : List PV), Same G1 G' ∧ StOk X.K cl { F with R := fun b => if b = D then some (.lst acc) else F.R b } G' H' (wipe σ vs) S' ∧ RepL X.K cl G' acc done ∧
    done ++ rest = zs ∧ lcGo2 vs vs1 g mt mi1 g1 mt1 me (ys.drop i) S' = some (rest, S2), ⟨ys.length, Nat.add_zero _, G1, _, [], [], zs, Same.refl _, st2, .nil, rfl, eg⟩, ?_⟩
  rintro i n H' ⟨hn, G', S', acc, dn, rest, s', st', rl, hz, hl⟩
  obtain ⟨hgo, hstop⟩ := hw i G' H' s' st'.ex
  cases e : ys[i]? with
  | none =>
    have hle : ys.length ≤ i := List.getElem?_eq_none_iff.mp e
    refine .inl ⟨hstop hle, ?_⟩
    rw [List.drop_eq_nil_of_le hle] at hl
    unfold lcGo2 at hl
    cases hl
    rw [List.append_nil] at hz
    subst hz
    obtain ⟨st3, gD⟩ := st'.rsvEnd fr
    have hzl : acc.length ≤ sizeLine := by
      rw [rl.length]
      exact hzs
    have sg : Same G' (upd G' D (.lst acc)) := same_new gD
    exact hp _ _ _ (s1.trans (s'.trans sg)) (StOk.back st1 (s'.trans sg) st3 plain hio) (.lst upd_same hzl (rl.mono sg))
  | some y =>
    obtain ⟨hlt, _⟩ := List.getElem?_eq_some_iff.mp e
    have hd : ys.drop i = y :: ys.drop (i + 1) := by
      rw [List.drop_eq_getElem_cons hlt]
      have : ys[i] = y := by
        have := List.getElem?_eq_getElem hlt
        rw [e] at this
        exact (Option.some.inj this).symm
      rw [this]
    rw [hd] at hl
    unfold lcGo2 at hl
    obtain ⟨go, hy⟩ := hgo y e
    refine .inr ⟨go, fun H3 => (n - 1) + (i + 1) = ys.length ∧ ∃ (G' : Hp) (S' : Sto) (acc : List V) (done rest : List PV), Same G1 G' ∧ StOk X.K cl { F with R := fun b => if b = D then some (.lst acc) else F.R b } G' H3 (wipe σ vs) S' ∧ RepL X.K cl G' acc done ∧
      done ++ rest = zs ∧ lcGo2 vs vs1 g mt mi1 g1 mt1 me (ys.drop (i + 1)) S' = some (rest, S2), fun H3 q => ⟨n - 1, by omega, q⟩, fun x H3 hx => ?_⟩
    obtain ⟨G3, s3, st3, r3⟩ := st'.res1 (hy x H3 hx)
    cases eg1 : g y S' with
    | none => rw [eg1] at hl; cases hl
    | some Sg =>
      rw [eg1] at hl
      refine hgi x σ H3 (fun σ' H' => H' = H3 ∧ StOk X.K cl { F with R := fun b => if b = D then some (.lst acc) else F.R b } G3 H3 σ' Sg) _ (hg _ G3 H3 _ S' Sg x y _ st3 r3 eg1 fun σ4 st4 => ⟨rfl, st4⟩) fun σ4 H4 hwσ q4 => ⟨hwσ, ?_⟩
      obtain ⟨rfl, st4⟩ := q4
      simp only [] at hl
      cases et : mt Sg with
      | none => rw [et] at hl; cases hl
      | some rt =>
        rw [et] at hl
        cases rt with
        | ex c fs S5 => cases hl
        | ok b S5 =>
          refine ht _ G3 _ σ4 Sg _ _ st4 et ?_
          intro b' G5 H5 s5 st5 hb
          cases hb
          cases b with
          | false =>
            simp only [] at hl
            rw [if_neg Bool.false_ne_true]
            exact ⟨by omega, G5, _, acc, dn, rest, (s'.trans s3).trans s5, st5.wiped hwσ hio, (rl.mono s3).mono s5, hz, hl⟩
          | true =>
            simp only [] at hl
            rw [if_pos rfl]
            cases ei : mi1 S5 with
            | none => rw [ei] at hl; cases hl
            | some ri =>
              rw [ei] at hl
              cases ri with
              | ex c fs S6 => cases hl
              | ok ys1 S6 =>
                simp only [] at hl
                cases ec : lcGo vs1 g1 mt1 me ys1 (wipeS S6 vs1) with
                | none => rw [ec] at hl; cases hl
                | some qc =>
                  obtain ⟨zs1, S7⟩ := qc
                  rw [ec] at hl
                  simp only [] at hl
                  cases eo : lcGo2 vs vs1 g mt mi1 g1 mt1 me (ys.drop (i + 1)) (wipeS S7 vs) with
                  | none => rw [eo] at hl; cases hl
                  | some qo =>
                    obtain ⟨zs2, S8⟩ := qo
                    rw [eo] at hl
                    cases hl
                    refine hi1 _ G5 H5 σ4 S5 ys1 S6 _ st5 ei fun J1 G6 H6 s6 st6 hw1 => ?_
                    have stw1 := st6.wiped (σ := σ4) (vs := vs1) rfl hio1
                    refine ⟨fun j k H' => k + j = ys1.length ∧ ∃ (G' : Hp) (S' : Sto) (acc : List V) (done rest : List PV), Same G6 G' ∧ StOk X.K cl { F with R := fun b => if b = D then some (.lst acc) else F.R b } G' H' (wipe σ4 vs1) S' ∧ RepL X.K cl G' acc done ∧
                      done ++ (rest ++ zs2) = zs ∧ lcGo vs1 g1 mt1 me (ys1.drop j) S' = some (rest, S7), ⟨ys1.length, Nat.add_zero _, G6, _, acc, dn, zs1, Same.refl _, stw1, ((rl.mono s3).mono s5).mono s6, hz, ec⟩, ?_⟩
                    rintro j k H9 ⟨hk, Ga, Sa, acc1, dn1, rest1, sa, sta, rl1, hz1, hl1⟩
                    obtain ⟨hgo1, hstop1⟩ := hw1 j Ga H9 sa sta.ex
                    cases ej : ys1[j]? with
                    | none =>
                      have hle1 : ys1.length ≤ j := List.getElem?_eq_none_iff.mp ej
                      refine .inl ⟨hstop1 hle1, ?_⟩
                      rw [List.drop_eq_nil_of_le hle1] at hl1
                      unfold lcGo at hl1
                      cases hl1
                      exact ⟨by omega, Ga, _, acc1, dn1, zs2, (((s'.trans s3).trans s5).trans s6).trans sa, sta.wiped ((wipe_sub hv).trans hwσ) hio, rl1, by rw [← hz1]; rfl, eo⟩
                    | some y1 =>
                      obtain ⟨hlt1, _⟩ := List.getElem?_eq_some_iff.mp ej
                      have hd1 : ys1.drop j = y1 :: ys1.drop (j + 1) := by
                        rw [List.drop_eq_getElem_cons hlt1]
                        have : ys1[j] = y1 := by
                          have := List.getElem?_eq_getElem hlt1
                          rw [ej] at this
                          exact (Option.some.inj this).symm
                        rw [this]
                      rw [hd1] at hl1
                      unfold lcGo at hl1
                      obtain ⟨go1, hy1⟩ := hgo1 y1 ej
                      refine .inr ⟨go1, fun H3 => (k - 1) + (j + 1) = ys1.length ∧ ∃ (G' : Hp) (S' : Sto) (acc : List V) (done rest : List PV), Same G6 G' ∧ StOk X.K cl { F with R := fun b => if b = D then some (.lst acc) else F.R b } G' H3 (wipe σ4 vs1) S' ∧ RepL X.K cl G' acc done ∧
                        done ++ (rest ++ zs2) = zs ∧ lcGo vs1 g1 mt1 me (ys1.drop (j + 1)) S' = some (rest, S7), fun H3 q => ⟨k - 1, by omega, q⟩, fun x1 Hx hx1 => ?_⟩
                      obtain ⟨Gb, sb, stb, rb⟩ := sta.res1 (hy1 x1 Hx hx1)
                      cases egb : g1 y1 Sa with
                      | none => rw [egb] at hl1; cases hl1
                      | some Sb =>
                        rw [egb] at hl1
                        refine hgi1 x1 σ4 Hx (fun σ' H' => H' = Hx ∧ StOk X.K cl { F with R := fun b => if b = D then some (.lst acc1) else F.R b } Gb Hx σ' Sb) _ (hg1 _ Gb Hx _ Sa Sb x1 y1 _ stb rb egb fun σ5 st5 => ⟨rfl, st5⟩) fun σ5 Hy hwσ1 qy => ⟨hwσ1, ?_⟩
                        obtain ⟨rfl, stc⟩ := qy
                        simp only [] at hl1
                        cases etb : mt1 Sb with
                        | none => rw [etb] at hl1; cases hl1
                        | some rtb =>
                          rw [etb] at hl1
                          cases rtb with
                          | ex c fs Sc => cases hl1
                          | ok bb Sc =>
                            refine ht1 _ Gb _ σ5 Sb _ _ stc etb ?_
                            intro b' Gc Hc sc std hb
                            cases hb
                            cases bb with
                            | false =>
                              simp only [] at hl1
                              rw [if_neg Bool.false_ne_true]
                              exact ⟨by omega, Gc, _, acc1, dn1, rest1, (sa.trans sb).trans sc, std.wiped hwσ1 hio1, (rl1.mono sb).mono sc, hz1, hl1⟩
                            | true =>
                              simp only [] at hl1
                              rw [if_pos rfl]
                              cases ee : me Sc with
                              | none => rw [ee] at hl1; cases hl1
                              | some re =>
                                rw [ee] at hl1
                                cases re with
                                | ex c fs Sd => cases hl1
                                | ok z Sd =>
                                  simp only [] at hl1
                                  cases ed : lcGo vs1 g1 mt1 me (ys1.drop (j + 1)) (wipeS Sd vs1) with
                                  | none => rw [ed] at hl1; cases hl1
                                  | some qd =>
                                    obtain ⟨zsd, Se⟩ := qd
                                    rw [ed] at hl1
                                    cases hl1
                                    refine he _ Gc Hc σ5 Sc _ _ std ee ?_
                                    intro w Gd Hd sd ste rw'
                                    have hH := (ste.rsv D (.lst acc1) (if_pos rfl)).1
                                    have hlen : acc1.length < sizeLine := by
                                      rw [rl1.length]
                                      have := congrArg List.length hz1
                                      simp at this
                                      omega
                                    refine ⟨acc1, hH, hlen, by omega, Gd, _, acc1 ++ [w], dn1 ++ [z], zsd, ((sa.trans sb).trans sc).trans sd,
                                      StOk.rsvSet (ste.wiped hwσ1 hio1), (((rl1.mono sb).mono sc).mono sd).append (.one rw'), by rw [← hz1]; simp, ed⟩
end
end Kp
set_option Elab.async false
set_option linter.all false
set_option maxRecDepth 100000
set_option maxHeartbeats 2000000
namespace Kp
open PySem PySem.Spec PyProof.Rows L2

/-! ### .. as a value -/
section
variable {X : Cx} {cl : Nat → Addr} {W : WX} {pos : Pos} {scope : Scope}
structure LcM2 (X : Cx) (cl : Nat → Addr) (W : WX) (elt tg iter : Expr) (ifs : List Expr) (tg1 iter1 : Expr) (ifs1 : List Expr) (scope : Scope) (own : List (Str × Nat)) (vs1 : List Nat) (mi : M (List PV)) (g : PV → Sto → Option Sto) (mt : M Bool) (mi1 : M (List PV)) (g1 : PV → Sto → Option Sto) (mt1 : M Bool) (me : M PV) : Prop where
  hi : IM X cl W tg iter mi
  ok : BlkOk X.N X.env.scope scope own
  hg : ∃ t, (∀ (s : Shared) (H : Hp) (C : Addr) (cl' : List (Str × Addr)) (fp : List Addr), PG (X.blk s H scope (compEnvC scope cl' C X.env) fp) tg t) ∧ DoesG X.K cl t g ∧ gIn (own.map (·.2)) t
  ht : ∃ tt, (∀ (s : Shared) (H : Hp) (C : Addr) (cl' : List (Str × Addr)) (fp : List Addr), PTs (X.blk s H scope (compEnvC scope cl' C X.env) fp) ifs tt) ∧ Does X.K cl W0 RB tt mt
  hi1 : ∃ wi, (∀ (s : Shared) (H : Hp) (C : Addr) (cl' : List (Str × Addr)) (fp : List Addr), PI (X.blk s H scope (compEnvC scope cl' C X.env) fp) tg1 iter1 wi) ∧ DoesI X.K cl W0 wi mi1
  hg1 : ∃ t, (∀ (s : Shared) (H : Hp) (C : Addr) (cl' : List (Str × Addr)) (fp : List Addr), PG (X.blk s H scope (compEnvC scope cl' C X.env) fp) tg1 t) ∧ DoesG X.K cl t g1 ∧ gIn vs1 t
  ht1 : ∃ tt, (∀ (s : Shared) (H : Hp) (C : Addr) (cl' : List (Str × Addr)) (fp : List Addr), PTs (X.blk s H scope (compEnvC scope cl' C X.env) fp) ifs1 tt) ∧ Does X.K cl W0 RB tt mt1
  he : ∃ te, (∀ (s : Shared) (H : Hp) (C : Addr) (cl' : List (Str × Addr)) (fp : List Addr), PE (X.blk s H scope (compEnvC scope cl' C X.env) fp) elt te) ∧ Does X.K cl W0 (RV X.K cl) te me
section
variable {elt tg iter tg1 iter1 : Expr} {ifs ifs1 : List Expr} {own : List (Str × Nat)} {vs1 : List Nat} {mi mi1 : M (List PV)} {g g1 : PV → Sto → Option Sto} {mt mt1 : M Bool} {me : M PV}
theorem LcM2.em (h : LcM2 X cl W elt tg iter ifs tg1 iter1 ifs1 scope own vs1 mi g mt mi1 g1 mt1 me) (hc : X.calm = true) (hN : X.N.Nodup) (hv : ∀ i ∈ vs1, i ∈ own.map (·.2)) (hs : ∀ x, foldedSetIterable iter X.env x = pure x := by intro _; rfl) (hs1 : ∀ env x, foldedSetIterable iter1 env x = pure x := by intro _ _; rfl) :
    EM X cl W (.ListComp elt [⟨tg, iter, ifs, 0⟩, ⟨tg1, iter1, ifs1, 0⟩] scope pos) (mLc2 (own.map (·.2)) vs1 mi g mt mi1 g1 mt1 me) := by
  obtain ⟨t, pg, dg, gi⟩ := h.hg
  obtain ⟨wi, pi, di⟩ := h.hi
  obtain ⟨tt, pt, dt⟩ := h.ht
  obtain ⟨wi1, pi1, di1⟩ := h.hi1
  obtain ⟨t1, pg1, dg1, gi1⟩ := h.hg1
  obtain ⟨tt1, pt1, dt1⟩ := h.ht1
  obtain ⟨te, pe, de⟩ := h.he
  exact ⟨_, pe_lc2 hc hN pi h.ok hv pg pt pi1 pg1 pt1 pe hs hs1, does_lc2 hv di dg gi dt di1 dg1 gi1 dt1 de⟩
end
end
/-! ### o.f, a property -/
section
variable {X : Cx} {cl : Nat → Addr} {W : WX} {pos : Pos}
end
end Kp
set_option Elab.async false
set_option linter.all false
set_option maxRecDepth 100000
set_option maxHeartbeats 2000000
namespace Kp
open PySem PySem.Spec PyProof.Rows L2

/-! ### {"a": 1, ..}, x is True, xs[i::k] -/
section
variable {X : Cx} {cl : Nat → Addr} {W : WX} {pos : Pos}
end
end Kp
set_option Elab.async false
set_option linter.all false
set_option maxRecDepth 100000
set_option maxHeartbeats 4000000
namespace Kp
open PySem PySem.Spec PyProof.Rows L2

/-! ### values without lists, dicts may stand in them -/
mutual
def PV.noD : PV → Bool
  | .lst _ => false
  | .frl _ => false
  | .dct kvs => PV.noDk kvs
  | .xo _ _ _ _ => false
  | .tup xs => PV.noDs xs
  | .obj _ fs => PV.noDf fs
  | _ => true
def PV.noDs : List PV → Bool
  | [] => true
  | x :: xs => PV.noD x && PV.noDs xs
def PV.noDf : List (Str × PV) → Bool
  | [] => true
  | (_, x) :: xs => PV.noD x && PV.noDf xs
def PV.noDk : List (PV × PV) → Bool
  | [] => true
  | (_, x) :: xs => PV.noD x && PV.noDk xs
end
section
variable {K : PySem.W.Frag} {cl : Nat → Addr} {G G' : Hp}
end
/-! ### a def that changes the lists of what was handed in, in three levels -/
structure SpM where
  c1 : M Bool
  a1 : M Fl
  ct : M Bool
  c2 : M Bool
  sg : M Fl
abbrev s3 (a b c : Option SV) : Sto := [a, b, c]
def isL : PV → Bool
  | .lst _ => true
  | _ => false
def SpA (m : SpM) (y : PV) : Prop := m.c1 (s3 (some (.p y)) none none) = some (.ok false (s3 (some (.p y)) none none)) ∧ m.c2 (s3 (some (.p y)) none none) = some (.ok false (s3 (some (.p y)) none none))
def SpB (m : SpM) (y : PV) : Prop := ∃ xs z, y = .lst xs ∧ PV.noDs xs = true ∧ m.c1 (s3 (some (.p y)) none none) = some (.ok false (s3 (some (.p y)) none none)) ∧ m.c2 (s3 (some (.p y)) none none) = some (.ok true (s3 (some (.p y)) none none)) ∧
  m.sg (s3 (some (.o y)) none none) = some (.ok .nx (s3 (some (.o z)) none none))
def RowI (n : Nat) (x : PV) : Prop := (∃ s, x = .str s) ∨ ∃ us : List Str, x = .lst (us.map .str) ∧ us.length ≤ n
structure SpC (m : SpM) (y : PV) (k n : Str) (z : PV) (zs : List PV) : Prop where
  ey : y = .lst [.str k, .str n, z]
  ez : z = .lst zs ∨ ((z = .non ∨ ∃ s, z = .str s) ∧ zs = [])
  zl : zs.length ≤ 20
  zi : ∀ x ∈ zs, RowI 20 x
  c1 : m.c1 (s3 (some (.p y)) none none) = some (.ok true (s3 (some (.p y)) none none))
  a1 : m.a1 (s3 (some (.p y)) none none) = some (.ok .nx (s3 (some (.p y)) (some (.p (.lst zs))) none))
  ct : ∀ a b x, RowI 100 x → m.ct (s3 (some (.p (.raw a))) (some (.p (.raw b))) (some (.p x))) = some (.ok (isL x) (s3 (some (.p (.raw a))) (some (.p (.raw b))) (some (.p x))))
  c2 : ∀ z', m.c2 (s3 (some (.p (.lst [.str k, .str n, z']))) none none) = some (.ok true (s3 (some (.p (.lst [.str k, .str n, z']))) none none))
  sg : ∀ z', ∃ w, m.sg (s3 (some (.o (.lst [.str k, .str n, z']))) none none) = some (.ok .nx (s3 (some (.o w)) none none))
def SpoilOk (m : SpM) (y : PV) : Prop := SpA m y ∨ SpB m y ∨ ∃ k n z zs, SpC m y k n z zs
end Kp
set_option Elab.async false
set_option linter.all false
set_option maxRecDepth 100000
set_option maxHeartbeats 4000000
namespace Kp
open PySem PySem.Spec PyProof.Rows L2
section
variable {K : PySem.W.Frag} {cl : Nat → Addr} {W : WX}
structure Pin2 (σ : L2.St) (a0 a1 : Addr) : Prop where
  len : σ.length = 3
  h0 : σ[0]? = some (some (.ref a0))
  h1 : σ[1]? = some (some (.ref a1))
theorem Pin2.set {σ : L2.St} {a0 a1 : Addr} (p : Pin2 σ a0 a1) (v : V) : Pin2 (σ.set 2 (some v)) a0 a1 := ⟨by rw [List.length_set]; exact p.len, by rw [List.getElem?_set_ne (by decide)]; exact p.h0, by rw [List.getElem?_set_ne (by decide)]; exact p.h1⟩
end
section
variable {P : Program} {w : World} {K : PySem.W.Frag} {mg : Str → Option Value} {base : Heap} {cl : Nat → Addr}
end
end Kp
set_option Elab.async false
set_option linter.all false
set_option maxRecDepth 100000
set_option maxHeartbeats 4000000
namespace Kp
open PySem PySem.Spec PyProof.Rows L2

/-! ### a unit of statements that ends with a def that changes the lists of slot j; the slots J are not told meanwhile -/
def rawS (J : List Nat) (as : Nat → Addr) (S : Sto) : Sto := S.mapIdx fun i c => if i ∈ J then some (.p (.raw (as i))) else c
theorem rawS_get {J : List Nat} {as : Nat → Addr} {S : Sto} {i : Nat} : (rawS J as S)[i]? = (S[i]?).map fun c => if i ∈ J then some (.p (.raw (as i))) else c := by
  unfold rawS
  rw [List.getElem?_mapIdx]
def isRefF : PV → Bool
  | .frl _ => true
  | x => isRefP x
structure UnitOk (J : List Nat) (j : Nat) (sp : SpM) (m : M Fl) (S S' : Sto) (y : PV) : Prop where
  jJ : j ∉ J
  pl : ∀ (i : Nat) (x : PV), S[i]? = some (some (.p x)) → i ∉ J → PV.noD x = true
  ow : ∀ (i : Nat) (x : PV), S[i]? = some (some (.o x)) → i ∈ J
  inn : ∀ (i : Nat) (x : PV), S[i]? = some (some (.i x)) → i ∈ J
  rf : ∀ i : Nat, i ∈ J → (∃ x, S[i]? = some (some (.o x))) ∨ (∃ x, S[i]? = some (some (.i x))) ∨ ∃ x, S[i]? = some (some (.p x)) ∧ isRefF x = true
  run : ∀ as, m (rawS J as S) = some (.ok .nx (rawS J as S'))
  len : S'.length = S.length
  same : ∀ i, i ∈ J → S'[i]? = S[i]?
  aty : S'[j]? = some (some (.p y))
  sy : SpoilOk sp y
  pl' : ∀ (i : Nat) (x : PV), S'[i]? = some (some (.p x)) → i ∉ J → i ≠ j → PV.noD x = true
  ow' : ∀ (i : Nat) (x : PV), S'[i]? = some (some (.o x)) → i ∈ J
  inn' : ∀ (i : Nat) (x : PV), S'[i]? = some (some (.i x)) → i ∈ J
theorem UnitOk.uniq {J : List Nat} {j : Nat} {sp : SpM} {m : M Fl} {S S1 S2 : Sto} {y1 y2 : PV} (h1 : UnitOk J j sp m S S1 y1) (h2 : UnitOk J j sp m S S2 y2) : S1 = S2 := by
  have e := (h1.run fun _ => 0).symm.trans (h2.run fun _ => 0)
  injection e with e
  injection e with _ e
  refine List.ext_getElem? fun i => ?_
  by_cases c : i ∈ J
  · rw [h1.same i c, h2.same i c]
  · have q := congrArg (fun l : Sto => l[i]?) e
    rw [rawS_get, rawS_get] at q
    cases a : S1[i]? with
    | none =>
      rw [a] at q
      cases b : S2[i]? with
      | none => rfl
      | some v => rw [b] at q; cases q
    | some u =>
      rw [a] at q
      cases b : S2[i]? with
      | none => rw [b] at q; cases q
      | some v =>
        rw [b] at q
        simp only [Option.map_some, if_neg c, Option.some.injEq] at q
        rw [q]
open Classical in
section
variable {X : Cx} {cl : Nat → Addr} {W : WX}
end
end Kp
set_option Elab.async false
set_option linter.all false
set_option maxRecDepth 100000
set_option maxHeartbeats 4000000
namespace Kp
open PySem PySem.Spec PyProof.Rows L2
section
variable {X : Cx} {cl : Nat → Addr} {W : WX}
end
end Kp
set_option Elab.async false
set_option linter.all false
set_option maxRecDepth 100000
set_option maxHeartbeats 4000000
namespace Kp
open PySem PySem.Spec PyProof.Rows L2

/-! ### name = [..]; if test: return ..: the own lists R are read, the own objects J are not told, the name is dropped behind it -/
open Classical in
section
variable {X : Cx} {cl : Nat → Addr} {W : WX}
open Classical in
section
variable {elt tg iter : Expr} {ifs : List Expr} {scope : Scope} {own : List (Str × Nat)} {mi : M (List PV)} {g : PV → Sto → Option Sto} {mt : M Bool} {me : M PV} {pos : Pos}
end
end
end Kp
set_option Elab.async false
set_option linter.all false
set_option maxRecDepth 100000
set_option maxHeartbeats 4000000
namespace Kp
open PySem PySem.Spec PyProof.Rows L2

/-! ### a caught exception is handed to a def -/
/-- such a def's promise: p is the exception that is handled -/
structure FnE (P : Program) (w : World) (K : PySem.W.Frag) (mg : Str → Option Value) (base : Heap) (CX : CXT) (k : Nat) (f : Addr) (fd : FuncData) (ps : List Str) (sp : Addr × Obj → Sp) : Prop where
  len : ∀ p vs H Q E, sp p vs H Q E → vs.length = ps.length
  go : ∀ (p : Addr × Obj) (A : Around) (outer : List Env) (s : Shared) (H : Hp) (args : Args) (us : List Value) (vs : List V) (Q : VK) (E : XK), L2H.Hot1 A p → L2H.PinOk outer H s p → L2H.RoomH k A →
    Env0 P w K mg base A outer s H → BindsTo s fd args (ps.zip us) → Vals vs us → sp p vs H Q E → codeAny (model P w) A (.call (.ref f) args) (CR CX outer P w H s Q E) s
theorem fnE_of {CX : CXT} {P : Program} {w : World} {K : PySem.W.Frag} {mg : Str → Option Value} {base : Heap} {k : Nat} {f : Addr} {name qual : Str} {params : Arguments} {body : List Stmt} {scope : Scope} {dV kV doc pm cdv ct oc : Value} {an od : Option Addr} {osl : Array (Option Value)} {N ps : List Str} {sp : Addr × Obj → Sp}
    (lk : K.lookup f = some ⟨oc, od, .func (PySem.W.fnOf name qual params body scope dV kV doc pm an cdv ct), osl⟩) (hcd : PySem.W.codeIn K cdv qual = true) (S : FnScope N ps scope) (len : ∀ p vs H Q E, sp p vs H Q E → vs.length = ps.length)
    (hbody : ∀ (p : Addr × Obj) (A : Around) (outer : List Env) (s : Shared) (H : Hp) (vs : List V) (Q : VK) (E : XK), L2H.Hot1 A p → L2H.RoomH k (A.deeper (envOfC qual scope s.heap.objs.size f cdv)) → sp p vs H Q E →
      ∃ t, PSs (L2H.cxH CX P w K mg base N qual scope f cdv A outer s H E p) body t ∧ t { nx := fun _ H' => Q .non H', rt := Q } (L2.start N vs) H) :
    FnE P w K mg base CX (k + 1) f (PySem.W.fnOf name qual params body scope dV kV doc pm an cdv ct) ps sp := by
  refine ⟨len, fun p A outer s H args us vs Q E hot hpin hr e0 hb r hsp => ?_⟩
  have hl := len _ _ _ _ _ hsp
  have KX : K.In s.heap := e0.mod.kin.keeps fun b o e => (e0.bs b o e).1
  have lim : s.heap.NoLimit := e0.mod.nolimit.keeps fun b o e => (e0.bs b o e).1
  have kinds : ∀ z ∈ ps.zip us, scope.names.lookup z.1 = some .local ∨ (scope.names.lookup z.1 = some .cell ∧ ((cellsFrom (s.heap.objs.size + 1) scope.names []).lookup z.1).isSome = true) := fun ⟨n, v⟩ hz =>
    (S.par n (List.of_mem_zip hz).1).elim .inl fun q => .inr ⟨q, PySem.W.cellsFrom_some _ _ _ (.inl q)⟩
  refine codeAny_call_function hr.depth (KX _ _ lk) rfl S.co S.gen rfl (PySem.W.codeRec_of KX hcd) (hb _ _ _ _ (wpAny_newFunctionEnv_cells S.kind kinds fun env he s1 x => ?_))
  subst he
  obtain ⟨t, ht, hq⟩ := hbody p A outer s H vs Q E hot (hr.deeper _) hsp
  have I := L2H.inv_startH (CX := CX) (E := E) (cd := cdv) (qual := qual) (f := f) S hpin e0 hl r x
  refine ⟨lim.keeps x.toInCall.keep, codeAny_func (wpAny_mono (ht.run [] s1 (L2.start N vs) H _ I hq) (fun fl s' hs => ?_) fun e s' hs => hs)⟩
  cases fl with
  | ret u => exact let ⟨v, σ', H', J, rv, q⟩ := hs; ⟨v, H', J.os, J.bare, J.base, J.hok, rv, q⟩
  | next => exact let ⟨σ', H', J, q⟩ := hs; ⟨V.non, H', J.os, J.bare, J.base, J.hok, rfl, q⟩
  | brk => exact let ⟨_, _, _, q⟩ := hs; False.elim q
  | cont => exact let ⟨_, _, _, q⟩ := hs; False.elim q
/-- one argument, the exception; cs: the classes that it may have -/
def spE (K : PySem.W.Frag) (cl : Nat → Addr) (cs : List Nat) (f : Addr → Addr → Nat → List (Str × PV) → Option PV) : Addr × Obj → Sp := fun p vs H Q _ => vs = [V.ref p.1] ∧ ∃ (d : Addr) (c : Nat) (gs : List (Str × V)) (fs : List (Str × PV)) (G : Hp) (y : PV),
  c ∈ cs ∧ L2N.Zn (.ref (cl c)) (some d) p.2 ∧ (∃ us, p.2.data = .fields us) ∧ Same G H ∧ G d = some (.xd gs) ∧ RepF K cl G gs fs ∧ f p.1 d c fs = some y ∧ ∀ (v : V) (G' H' : Hp), Grown G H G' H' → Rep K cl G' v y → Q v H'
def retE : Option RO → Option PV
  | some (.ret y) => some y
  | _ => none
def runE (N : Nat) (m : Addr → Addr → Nat → M Fl) (a d : Addr) (c : Nat) (fs : List (Str × PV)) : Option PV := retE (runP N (m a d c) [.xo a d c fs])
section
variable {P : Program} {w : World} {K : PySem.W.Frag} {mg : Str → Option Value} {base : Heap} {cl : Nat → Addr}
theorem fnE {x qual pn : Str} {st : Stmt} {f : Addr} {fd : FuncData} {N : List Str} {k : Nat} {cs : List Nat} {m : Addr → Addr → Nat → M Fl} (F : Fun K x qual st f fd) (S : FnScope N [pn] (defScope st))
    (hb : ∀ (cdv : Value) (A : Around) (outer : List Env) (s : Shared) (H : Hp) (E : XK) (a d : Addr) (oe : Obj) (c : Nat), c ∈ cs → L2N.Zn (.ref (cl c)) (some d) oe → (∃ us, oe.data = .fields us) → L2H.RoomH k (A.deeper (envOfC qual (defScope st) s.heap.objs.size f cdv)) →
      SMs (L2H.cxH (L2N.CX P w) P w K mg base N qual (defScope st) f cdv A outer s H E (a, oe)) cl W0 (defBody st) (m a d c)) :
    FnE P w K mg base (L2N.CX P w) (k + 1) f fd [pn] (spE K cl cs (runE N.length m)) := by
  obtain ⟨oc, od, kV, doc, pm, an, cdv, ct, osl, rfl, lk, hcd⟩ := F.ex
  have hps : 1 ≤ N.length := by
    have := congrArg List.length S.pre
    rw [List.length_take] at this
    simp only [List.length_cons, List.length_nil] at this
    omega
  refine fnE_of lk hcd S (fun p vs H Q E h => by rw [h.1]; rfl) fun p A outer s H vs Q E hot hr hsp => ?_
  obtain ⟨hv, d, c, gs, fs, G, y, hc, hz, hf, e, hd, rf, hm, hq⟩ := hsp
  subst hv
  obtain ⟨a, oe⟩ := p
  obtain ⟨t, pt, dt⟩ := hb cdv A outer s H E a d oe c hc hz hf hr
  refine ⟨t, pt, ?_⟩
  have rl : RepL K cl G [V.ref a] [.xo a d c fs] := .one (.xo hd rf)
  have st0 := stOk_startP (N := N) e rl hps
  have gr : ∀ {G' H' : Hp} {σ' : L2.St} {S' : Sto}, Same G G' → StOk K cl ⟨G, H, fun _ => none, fun _ => none⟩ G' H' σ' S' → Grown G H G' H' := fun {G' H' σ' S'} s k => ⟨s, k.ex, fun a o h => k.frame a o h (fun i z => by cases z), k.gnew⟩
  unfold runE runP endP at hm
  split at hm
  · rename_i S' em
    have hm := Option.some.inj hm
    subst hm
    exact dt _ G H _ _ _ _ st0 em fun σ' G' H' s' k' => hq .non G' H' (gr s' k') .non
  · rename_i y' S' em
    have hm := Option.some.inj hm
    subst hm
    exact dt _ G H _ _ _ _ st0 em fun v σ' G' H' s' k' r' => hq v G' H' (gr s' k') r'
  · cases hm
  · cases hm
end
/-! ### what may be asked of it, wherever it is held -/
section
variable {X : Cx} {cl : Nat → Addr} {W : WX} {pos : Pos} {a d : Addr} {c : Nat} {oe : Obj}
theorem em_xfP {e : Expr} {i : Nat} {f : Str} (hp : (a, oe) ∈ X.pn) (T : L2.ExcC X.K (cl c)) (hno : PySem.W.findIn X.K (.ref (cl c)) f = some none) (hz : L2N.Zn (.ref (cl c)) (some d) oe) (hf : ∃ vs, oe.data = .fields vs) (he : PE X e (tVar i)) (hb : attributeBase e f X.env (eval e X.env) = eval e X.env := by rfl) :
    EM X cl W (.Attribute e f pos) (mXf i a d c f) := by
  refine ⟨fun σ H Q => ∃ (gs : List (Str × V)) (v : V), σ[i]? = some (some (V.ref a)) ∧ H d = some (.xd gs) ∧ gs.lookup f = some v ∧ Q v H, ⟨fun pins s σ H Q I h => ?_⟩, fun F G H σ S r Q st hm hpp => ?_⟩
  · obtain ⟨gs, v, h1, h2, h3, h4⟩ := h
    refine attr_of hb (thn (he.run pins s σ H (fun x H1 => x = .ref a ∧ H1 = H) I ⟨_, h1, rfl, rfl⟩) fun u s1 hh => ?_)
    obtain ⟨x, H1, I1, rx, ex, eH⟩ := hh
    subst ex
    subst eH
    obtain rfl : u = Value.ref a := rx
    obtain ⟨ha, _⟩ := I1.pin (a, oe) (List.mem_append_left _ hp)
    obtain ⟨vs, hd⟩ := hf
    obtain ⟨mA, hns, hr⟩ := (show ObjOk X.prog X.w H1 s1.heap d (.xd gs) from I1.hok d _ h2)
    obtain ⟨od, ho, hl⟩ := lookIn_ns hns
    obtain ⟨u, hu, ru⟩ := RelO.some_of (v := v) (o := mA f) (by rw [← h3]; exact hr f)
    have J : PySem.W.InstAt s1.heap a oe (cl c) (some od) := ⟨ha, hz.1, by unfold PySem.W.notCls; rw [hd], by rw [hz.2.1]; exact ho⟩
    exact HandSPX.exc_get I1.kIn J T.hg T.hk T.hs (PySem.W.findObj_own T.hd hno rfl (by rw [hl, hu])) (handed_of ru) ⟨v, H1, I1.tok _, ru, h4⟩
  · unfold mXf at hm
    rcases bnd_some hm with ⟨fs, S1, e1, e2⟩ | ⟨c', gs, S1, e1, _⟩
    · obtain ⟨rfl, e3⟩ := xoAt_some e1
      obtain ⟨z, ez, rfl⟩ := lift_eq e2
      obtain ⟨ev, gs, h1, h2⟩ := xo_view st e3
      obtain ⟨w, ew, rw'⟩ := h2.lookup ez
      exact ⟨gs, w, ev, h1, ew, hpp _ _ _ (Same.refl _) st rw'⟩
    · exact absurd e1 xoAt_ex
theorem em_isEP {x t : Expr} {i : Nat} {cv : V} {u : Value} {b : Bool} {p : Pos} (hp : (a, oe) ∈ X.pn) (C : L2.ExcC X.K (cl c)) (hz : L2N.Zn (.ref (cl c)) (some d) oe) (hf : ∃ vs, oe.data = .fields vs) (hans : PySem.W.kitOne X.K (.ref (cl c)) u = some b) (hv : ClsV cv u) (hm : X.mg "isinstance" = none)
    (hx : PE X x (tVar i)) (hc : PE X t (tC cv)) (hg : Gl X "isinstance" := by rfl) (he : starEach [x, t] X.env = (false, eval x X.env) :: starEach [t] X.env := by rfl) (he2 : starEach [t] X.env = (false, eval t X.env) :: starEach [] X.env := by rfl) (hpl : (backTo pos (starEach [t] X.env)).any (·.1) = false := by rfl) :
    EM X cl W (.Call (.Name "isinstance" p) [x, t] [] pos) (mIsE i a d c b) := by
  have call : CallR X (.builtin "isinstance") (rIsEd X.K (cl c) a d) := fun pins s σ H xs us Q I r h => by
    obtain ⟨t, u, b, gs, rfl, hcv, hd, e, q⟩ := h
    obtain ⟨u1, u2, rfl, r1, r2⟩ := vals2 r
    cases (show u1 = Value.ref a from r1)
    have ec := hcv.eq r2
    subst ec
    obtain ⟨hget, _⟩ := I.pin (a, oe) (List.mem_append_left _ hp)
    obtain ⟨vs, hv⟩ := hf
    obtain ⟨mA, hns, _⟩ := (show ObjOk X.prog X.w H s.heap d (.xd gs) from I.hok d _ hd)
    obtain ⟨od, ho, _⟩ := lookIn_ns hns
    have J : PySem.W.InstAt s.heap a oe (cl c) (some od) := ⟨hget, hz.1, by unfold PySem.W.notCls; rw [hv], by rw [hz.2.1]; exact ho⟩
    have hcl : (PySem.W.clsIn X.K (cl c)).isSome = true := let ⟨cd, hc, _⟩ := PySem.W.any_some C.hd; by rw [hc]; rfl
    exact PySem.W.kia_one (PySem.W.kitx_exc hcl C.hg C.hk C.hs C.ha C.hn C.ht C.hm) I.kIn J e (fun z => nomatch z) fun tk => ⟨.bl b, H, I.kept (t' := tk) fun _ _ z => z, rfl, q⟩
  refine ⟨_, pe_callB call hg hm PyProof.Rows.boot_isinstance (pa_cons hx (pa_cons hc pa_nil he2) he) (by decide) (by decide) he hpl, fun F G H σ S r Q st hm hp => ?_⟩
  unfold mIsE at hm
  rcases bnd_some hm with ⟨fs, S1, e1, e2⟩ | ⟨c', gs, S1, e1, _⟩
  · obtain ⟨rfl, e3⟩ := xoAt_some e1
    cases e2
    obtain ⟨ev, gs, h1, h2⟩ := xo_view st e3
    exact ⟨_, ev, cv, u, b, gs, rfl, hv, h1, hans, hp _ _ _ (Same.refl _) st (.bl _)⟩
  · exact absurd e1 xoAt_ex
/-! ### the call -/
theorem pe_callE {x : Str} {k : Nat} {f : Addr} {fd : FuncData} {ps : List Str} {sp : Addr × Obj → Sp} {q : Pos} {e : Expr} {es : List Expr} {t : TA} (hot : L2H.Hot1 X.A (a, oe)) (hp : (a, oe) ∈ X.pn) (F : FnE X.prog X.w X.K X.mg X.base (L2N.CX X.prog X.w) k f fd ps sp) (hr : L2H.RoomH k X.A) (hg : Gl X x) (hm : X.mg x = some (.ref f))
    (hk : PySem.W.keepIn X.K (.ref f) = true) (hb : Binds X.K fd ps []) (ha : PA X (e :: es) t) (hdb : (x == ("__debug__" : Str)) = false := by decide) (he : starEach (e :: es) X.env = (false, eval e X.env) :: starEach es X.env := by rfl) (hpl : (backTo pos (starEach es X.env)).any (·.1) = false := by rfl) :
    PE X (.Call (.Name x q) (e :: es) [] pos) (fun σ H Q => t σ H fun vs H1 => sp (a, oe) vs H1 Q fun _ _ _ => False) := by
  refine ⟨fun pins s σ H Q I h => ?_⟩
  refine wpAny_Call_Name_kw (ld_glob I hg hm (PySem.W.callWith_K (h₀ := X.base) I.ok.mod.kin hk (thn (ha.run pos pins s σ H _ I h) fun us s1 ⟨vs, H1, I1, r, hsp⟩ => ⟨I1.kIn, ?_⟩) he hpl) hdb)
  have hl : us.length = ps.length := r.length.symm.trans (F.len _ _ _ _ _ hsp)
  have b := hb s1 us I1.kIn (by rw [List.append_nil]; exact hl)
  rw [List.append_nil] at b
  obtain ⟨p1, p2, p3, p4, p5⟩ := I1.pin (a, oe) (List.mem_append_left _ hp)
  have pin : L2H.PinOk X.stack H1 s1 (a, oe) := ⟨p1, p2, fun hm => (List.mem_cons.mp (I1.stkSub a hm)).elim p3 p4, p5⟩
  refine wpAny_call (codeAny_mono (F.go (a, oe) X.A X.stack s1 H1 ⟨us, []⟩ us vs Q _ hot pin hr I1.env0 b r hsp) fun r s' hq => ?_)
  cases r with
  | error e =>
    obtain ⟨_, _, _, _, _, _, _, _, _, _, _, _, no⟩ := hq
    exact no.elim
  | ok fl =>
    cases fl <;> first | exact I1.after hq | exact False.elim hq
def mCallE (i : Nat) (a d : Addr) (c : Nat) (g : Addr → Addr → Nat → List (Str × PV) → Option PV) : M PV := bnd (xoAt i a d c) fun fs => lift (g a d c fs)
end
section
variable {X : Cx} {cl : Nat → Addr} {W : WX} {pos : Pos} {a d : Addr} {c : Nat} {oe : Obj} {pn : List (Addr × Obj)}
/-- in the suite of an except: f(x), x the caught one -/
theorem em_callE {x : Str} {k i : Nat} {f : Addr} {fd : FuncData} {ps : List Str} {cs : List Nat} {g : Addr → Addr → Nat → List (Str × PV) → Option PV} {q : Pos} {e : Expr} (F : FnE X.prog X.w X.K X.mg X.base (L2N.CX X.prog X.w) k f fd ps (spE X.K cl cs g)) (hr : Room k X.A) (hm : X.mg x = some (.ref f)) (hk : PySem.W.keepIn X.K (.ref f) = true)
    (hb : Binds X.K fd ps []) (hc : c ∈ cs) (hz : L2N.Zn (.ref (cl c)) (some d) oe) (hf : ∃ vs, oe.data = .fields vs) (hx : PE (X.suite a ((a, oe) :: pn)) e (tVar i)) (hg : Gl X x := by rfl) (hdb : (x == ("__debug__" : Str)) = false := by decide)
    (he : starEach [e] X.env = (false, eval e X.env) :: starEach [] X.env := by rfl) (hpl : (backTo pos (starEach [] X.env)).any (·.1) = false := by rfl) :
    EM (X.suite a ((a, oe) :: pn)) cl W (.Call (.Name x q) [e] [] pos) (mCallE i a d c g) := by
  obtain ⟨us, hus⟩ := id hf
  refine ⟨_, pe_callE (a := a) (oe := oe) ⟨rfl, us, hus, hz.2.2 us hus⟩ List.mem_cons_self F ⟨hr.dp, hr.un⟩ hg hm hk hb (pa_cons hx pa_nil he) hdb he hpl, fun F G H σ S r Q st hm hp => ?_⟩
  unfold mCallE at hm
  rcases bnd_some hm with ⟨fs, S1, e1, e2⟩ | ⟨c', gs, S1, e1, _⟩
  · obtain ⟨rfl, e3⟩ := xoAt_some e1
    obtain ⟨z, ez, rfl⟩ := lift_eq e2
    obtain ⟨v, ev, rv⟩ := st.val i _ e3
    cases rv with
    | xo h1 h2 => exact ⟨_, ev, rfl, d, c, _, fs, G, z, hc, hz, hf, st.ex, h1, h2, ez, fun v G' H' g r' => hp v G' H' g.g (st.grown g) r'⟩
  · exact absurd e1 xoAt_ex
end
end Kp
set_option Elab.async false
set_option linter.all false
set_option maxRecDepth 100000
set_option maxHeartbeats 4000000
namespace Kp
open PySem PySem.Spec PyProof.Rows L2 PySem.HandSPX

/-! ### a comprehension whose item may raise -/
theorem noteFrame_of {e : Value} {env env' : Env} (h : env'.frame = env.frame) : noteFrame e env' = noteFrame e env := by
  unfold noteFrame PySem.frameOf
  rw [h]
theorem passOn_of {what : String} {e : Value} {env env' : Env} (h : env'.frame = env.frame) : (PySem.passOn what e env' : Sem Value) = PySem.passOn what e env := by
  unfold PySem.passOn
  rw [h]
section
variable {M : Model} {A : Around} {E : Value → Shared → Prop} {s : Shared} {Z : Obj → Prop} {base : Heap} {env : Env} {outer : List Env} {L C a : Addr}
/-- it is noted, after it was noted in a frame at another place -/
theorem look_elseZ {Q : Unit → Shared → Prop} (hZ : PXN.Steady1 Z) (hne : C ≠ L) (hfr : A.frames = some (env :: outer)) (hf : env.frame = some L) (x : HeldZ base (env :: outer) a Z C s.heap)
    (hQ : ∀ h', HeldZ base (env :: outer) a Z L h' → s.heap.UpToSlots h' → Q () { s with heap := h' }) : wpAny M A (noteFrame (.ref a) env) Q E s := by
  obtain ⟨st, gone, frames, oe, vs, T, oT, ts, e1, e2, e3, e4, e5, e6, e7, e8, e9⟩ := x
  unfold noteFrame
  simp only [hf]
  refine wpAny_bind (wpAny_field e1 e3 e4 ?_)
  rw [if_pos (show (Value.ref T != Value.none) = true from by simp)]
  refine wpAny_bind (wpAny_field e7 e8 e9 ?_)
  rw [if_neg (show ¬ ((rawInt C == rawInt L) = true) from by
    have z : ((C : Nat) : Int) ≠ ((L : Nat) : Int) := fun e => hne (Int.ofNat_inj.mp e)
    simpa [rawInt] using z)]
  refine wpAny_bind (wpAny_setField e7 e8 (Array.getElem?_eq_some_iff.mp e9).1 ?_)
  have oth : ∀ b, b ≠ T → (s.heap.update T (Obj.mapFields (·.setIfInBounds 3 Value.none))).get? b = s.heap.get? b := fun b hb => Heap.get?_update_other _ _ (Ne.symm hb)
  have nrec : ∀ b o, s.heap.get? b = some o → (∀ vs, o.data ≠ .fields vs) → b ≠ T := fun b o hb hnf q => by
    subst q
    rw [e7] at hb
    cases hb
    exact hnf ts e8
  refine PXN.wpAny_entryZ hZ hfr (frames.of_keeps fun b o hb hnf => ⟨o, (oth b (nrec b o hb hnf)).trans hb, rfl⟩) hf ((oth a (Ne.symm e6)).trans e1) (fun b o hbo => (oth b fun q => by rw [q, e5] at hbo; cases hbo).trans (st b o hbo)) gone e3 (Array.getElem?_eq_some_iff.mp e4).1 e2 fun h' hN => ?_
  exact hQ h' ⟨hN.1, gone, hN.2.1, hN.2.2.1⟩ fun b o hb hnf => hN.2.2.2 b o ((oth b (nrec b o hb hnf)).trans hb) hnf
theorem funFrames_but {B B' h h' : Heap} (sb : Heap.SameBut C h h') (hB : ∀ b, B.get? b = none → B'.get? b = none) : ∀ {l : List Env}, (∀ b ∈ frs l, b ≠ C) → h.FunFrames B l → h'.FunFrames B' l
  | [], _, _ => trivial
  | env :: l, hl, ⟨hk, ⟨L, o, hf, hn, ho, hd⟩, hr⟩ => ⟨hk, ⟨L, o, hf, hB L hn, (sb.2 L (hl L (List.mem_filterMap.mpr ⟨env, List.mem_cons_self, hf⟩))).trans ho, hd⟩,
      funFrames_but sb hB (fun b hb => hl b (let ⟨e, he, q⟩ := List.mem_filterMap.mp hb; List.mem_filterMap.mpr ⟨e, List.mem_cons_of_mem _ he, q⟩)) hr⟩
/-- what a comprehension's block must reach: ce its block's frame -/
def compEnd (M : Model) (A : Around) (E : Value → Shared → Prop) (use : Option (Value → Sem Unit)) (Q : Value → Shared → Prop) (acc : Value) (ce : Env) (r : Result) (s' : Shared) : Prop :=
  match r with
  | .ok _ => compPost M A E use Q acc ce.locals (.ok .next) s'
  | .error x => ∃ m, s'.heap.Ns ce.locals m ∧ ∀ h', Heap.SameBut ce.locals s'.heap h' → wpAny M A (PySem.passOn "comprehension.variables-let-go" x ce : Sem Value) (fun _ _ => False) E { s' with heap := h' }
theorem comp_raise {e : Expr} {scope : Scope} {pos : Pos} {newAcc first : Sem Value} {g : Comprehension} {gs : List Comprehension} {cl : List (Str × Addr)} {use : Option (Value → Sem Unit)} {Q : Value → Shared → Prop}
    (hcl : clausesOf e = g :: gs) (hs : ∀ x, foldedSetIterable g.iter env x = pure x) (hclos : closureFor scope env = pure cl) (hkind : scope.kind = .function) (hnames : ∀ x ∈ scope.names, x.2 = .local → scope.names.lookup x.1 = some .local)
    (h : wpAny M A first (fun x s₁ => wpAny M A (pyIter x) (fun it s₂ => wpAny M A newAcc (fun acc s₃ => wpAny M A (newFunctionEnv scope env.globals cl [] env.qual none .none (some env)) (fun cenv s₄ =>
        codeAny M A (.compStart e 0 it acc { cenv with scope := relabel scope env }) (compEnd M A E use Q acc { cenv with scope := relabel scope env }) s₄) E s₃) E s₂) E s₁) E s) :
    wpAny M A (comprehension e scope env pos newAcc false first use) Q E s := by
  unfold comprehension
  rw [hclos, hcl]
  refine wpAny_bind (wpAny_mono h (fun x s₁ h₁ => wpAny_bind (wpAny_standAt (wpAny_bind (wpAny_of_eq (hs x) (wpAny_bind (wpAny_holding (wpAny_mono h₁ (fun it s₂ h₂ => wpAny_standIf (wpAny_bind (wpAny_mono h₂ (fun acc s₃ h₃ => wpAny_bind (wpAny_pure (wpAny_bind (wpAny_mono h₃ (fun cenv s₄ h₄ => ?_)
    fun _ _ z => z)))) fun _ _ z => z))) fun _ _ z => z))))))) fun _ _ z => z)
  dsimp only
  have vis : ∀ x ∈ (scope.names.filter fun x => (x.2 == .local || x.2 == .cell) && x.1 != (".0" : Str)).reverse, x.2 = .local → Env.kindOf { cenv with scope := relabel scope env } x.1 = some .local := fun x hx hl =>
    lookup_relabel_local (hnames x (List.mem_filter.mp (List.mem_reverse.mp hx)).1 hl)
  have vis' : ∀ x ∈ (scope.names.filter fun x => (x.2 == .local || x.2 == .cell) && x.1 != (".0" : Str)).reverse.drop 1 ++ (scope.names.filter fun x => (x.2 == .local || x.2 == .cell) && x.1 != (".0" : Str)).reverse.take 1, x.2 = .local → Env.kindOf { cenv with scope := relabel scope env } x.1 = some .local := fun x hx hl =>
    (List.mem_append.mp hx).elim (fun z => vis x (List.mem_of_mem_drop z) hl) fun z => vis x (List.mem_of_mem_take z) hl
  refine wpAny_holding (wpAny_bind (wpAny_attempt (wpAny_holding (wpAny_run (codeAny_mono h₄ fun r s' hr => ?_)))))
  cases r with
  | ok f =>
    cases use with
    | none =>
      obtain ⟨m, hn, q⟩ := hr
      exact wpAny_bind (wpAny_holding (wpAny_comp_letGo (cenv := { cenv with scope := relabel scope env }) hkind _ s' m vis hn fun h' m' _ sb => wpAny_pure (q h' sb)))
    | some u =>
      refine wpAny_bind (wpAny_rule (wpAny_bind (wpAny_holding (wpAny_mono hr (fun _ s'' q => ?_) fun _ _ z => z))))
      obtain ⟨m, hn, q⟩ := q
      exact wpAny_bind (wpAny_comp_letGo (cenv := { cenv with scope := relabel scope env }) hkind _ s'' m vis' hn fun h' m' _ sb => wpAny_pure (q h' sb))
  | error x =>
    obtain ⟨m, hn, q⟩ := (show ∃ m, s'.heap.Ns cenv.locals m ∧ ∀ h', Heap.SameBut cenv.locals s'.heap h' → wpAny M A (PySem.passOn "comprehension.variables-let-go" x { cenv with scope := relabel scope env } : Sem Value) (fun _ _ => False) E { s' with heap := h' } from hr)
    exact wpAny_bind (wpAny_holding (wpAny_comp_letGo (cenv := { cenv with scope := relabel scope env }) hkind _ s' m vis hn fun h' m' _ sb => wpAny_mono (q h' sb) (fun _ _ z => z.elim) fun _ _ z => z))
end
/-- the block's context, where an item may raise -/
abbrev blkX (X : Cx) (s : Shared) (H : Hp) (scope : Scope) (cenv : Env) (fp : List Addr) (xe : Value → Shared → Prop) : Cx := { X.blk s H scope cenv fp with xe := xe }
section
variable {X : Cx} {pins : List (Addr × Obj)} {σ : L2.St} {H H3 : Hp} {s s3 s' : Shared}
theorem Inv.xe' {xe : Value → Shared → Prop} (I : Inv X pins σ H s) : Inv { X with xe := xe } pins σ H s :=
  ⟨⟨I.ok.mod, I.ok.kind, I.ok.glob, I.ok.blt, I.ok.above, I.ok.inj, I.ok.has, I.ok.cab, I.ok.hd, I.ok.frames, I.ok.stk, I.ok.exf, I.ok.bs, I.ok.bsz, I.ok.noex, I.ok.exfs, I.ok.funs, I.ok.frf⟩, I.os, I.bare, I.base, I.loc, I.cell, I.free, I.freeC, I.pin, I.hok, I.len⟩
theorem Inv.xe0 {xe : Value → Shared → Prop} (I : Inv { X with xe := xe } pins σ H s) : Inv X pins σ H s :=
  ⟨⟨I.ok.mod, I.ok.kind, I.ok.glob, I.ok.blt, I.ok.above, I.ok.inj, I.ok.has, I.ok.cab, I.ok.hd, I.ok.frames, I.ok.stk, I.ok.exf, I.ok.bs, I.ok.bsz, I.ok.noex, I.ok.exfs, I.ok.funs, I.ok.frf⟩, I.os, I.bare, I.base, I.loc, I.cell, I.free, I.freeC, I.pin, I.hok, I.len⟩
/-- the item's exception goes on to what the def wants of exceptions -/
theorem blk_err {scope : Scope} {ce : Env} {fp : List Addr} {W Wb : WX} {u : Value} (hs : X.stack = X.env :: X.outer) (hf : X.env.frame = some X.env.locals) (I3 : Inv X pins σ H3 s3) (cL : ce.locals = s3.heap.objs.size) (cF : ce.frame = X.env.frame)
    (f3 : ∀ b ∈ fp, FpOk X pins H3 b ∧ b < s3.heap.objs.size) (tk : L2N.Takes X W) (hW : ∀ c d σb H', Wb c d σb H' → W c d σ H') (x : L2N.XE (X.blk s3 H3 scope ce fp) Wb u s') :
    notedBy (model X.prog X.w) X.A ce (fun e s'' => ∃ m, s''.heap.Ns ce.locals m ∧ ∀ h', Heap.SameBut ce.locals s''.heap h' → wpAny (model X.prog X.w) X.A (PySem.passOn "comprehension.variables-let-go" e ce : Sem Value) (fun _ _ => False) X.xe { s'' with heap := h' }) u s' := by
  obtain ⟨a, B, sI, pins', σb, H', cls, d, rfl, I', nb, up, sky, na, os, ag, w⟩ := x
  have hfr : X.A.frames = some (X.env :: X.outer) := by rw [I3.ok.frames, hs]
  have hst : (X.blk s3 H3 scope ce fp).stack = X.env :: X.outer := hs
  have frC : ∀ b ∈ frs X.stack, b ≠ ce.locals := fun b hb z => by
    obtain ⟨_, o, ho, _⟩ := I3.stack.mem hb
    rw [z, cL] at ho
    exact absurd (Heap.lt_size ho) (Nat.lt_irrefl _)
  have hCL : ce.locals ≠ X.env.locals := by
    rw [cL]
    exact Ne.symm (Nat.ne_of_lt I3.lt)
  show wpAny (model X.prog X.w) X.A (noteFrame (.ref a) ce) _ _ s'
  rw [noteFrame_of cF]
  have key : ∀ h1, HeldZ B (X.env :: X.outer) a (L2N.Zn cls d) X.env.locals h1 → s'.heap.UpToSlots h1 →
      ∃ m, h1.Ns ce.locals m ∧ ∀ h', Heap.SameBut ce.locals h1 h' → wpAny (model X.prog X.w) X.A (PySem.passOn "comprehension.variables-let-go" (.ref a) ce : Sem Value) (fun _ _ => False) X.xe { s' with heap := h' } := fun h1 hh up1 => by
    have J1 : Inv (X.blk s3 H3 scope ce fp) pins' σb H' { s' with heap := h1 } := I'.landed nb hh.1 (up.trans up1) os ag
    obtain ⟨m, hn, _⟩ := J1.loc
    have hn : h1.Ns ce.locals m := hn
    refine ⟨m, hn, fun h2 sb => ?_⟩
    obtain ⟨oC, es, ep, hoC, hdC, _⟩ := hn
    obtain ⟨st, gone, frames, oe, vs, T, oT, ts, e1, e2, e3, e4, e5, e6, e7, e8, e9⟩ := hh
    have aC : a ≠ ce.locals := fun z => by
      rw [z, hoC] at e1
      cases e1
      rw [hdC] at e3
      cases e3
    have tC : T ≠ ce.locals := fun z => by
      rw [z, hoC] at e7
      cases e7
      rw [hdC] at e8
      cases e8
    obtain ⟨B', b1, b2⟩ := L2.restrict B fun b => decide (b ≠ ce.locals)
    obtain ⟨G, g1, g2⟩ := L2.restrict sI.heap fun b => decide (b ≠ ce.locals)
    have inB : ∀ b o, B'.get? b = some o → b ≠ ce.locals ∧ B.get? b = some o := fun b o e => by
      by_cases z : b = ce.locals
      · rw [b2 b (by simp [z])] at e
        cases e
      · exact ⟨z, by rw [← b1 b (by simp [z])]; exact e⟩
    have inG : ∀ b o, G.get? b = some o → b ≠ ce.locals ∧ sI.heap.get? b = some o := fun b o e => by
      by_cases z : b = ce.locals
      · rw [g2 b (by simp [z])] at e
        cases e
      · exact ⟨z, by rw [← g1 b (by simp [z])]; exact e⟩
    have noB : ∀ b, B.get? b = none → B'.get? b = none := fun b e => by
      cases q : B'.get? b with
      | none => rfl
      | some o =>
        rw [(inB b o q).2] at e
        cases e
    have hh2 : HeldZ B' (X.env :: X.outer) a (L2N.Zn cls d) X.env.locals h2 := ⟨fun b o e => (sb.2 b (inB b o e).1).trans (st b o (inB b o e).2), noB a gone, funFrames_but sb noB (by rw [← hs]; exact frC) frames,
      oe, vs, T, oT, ts, (sb.2 a aC).trans e1, e2, e3, e4, noB T e5, e6, (sb.2 T tC).trans e7, e8, e9⟩
    have below : ∀ b o, s3.heap.get? b = some o → b ≠ ce.locals := fun b o e z => by
      rw [z, cL] at e
      exact absurd (Heap.lt_size e) (Nat.lt_irrefl _)
    have base : Un (frs X.stack) fp H3 H' s3.heap sI.heap := I'.base
    have baseG : Un (frs X.stack) fp H3 H' s3.heap G := ⟨fun b o e n h1 h2 => (g1 b (by simp [below b o e])).trans (base.keep b o e n h1 h2), fun b o e n h1 h2 => by rw [g1 b (by simp [below b o e])]; exact base.slot b o e n h1 h2,
      base.free, fun b o e h1 => by rw [g1 b (by simp [below b o e])]; exact base.there b o e h1, base.tups, base.frzs, base.tbls⟩
    have freeC : H' ce.locals = none := I'.free
    have hokG : HOk X.prog X.w H' G := fun b o q => (I'.hok b o q).stay (fun c u hc r => (g1 c (by
      have : c ≠ ce.locals := fun z => by
        rw [z] at hc
        rcases hc with hc | hc
        · rw [← hc, freeC] at q
          cases q
        · rw [freeC] at hc
          cases hc
      simp [this])).trans r) (fun _ r => r) fun _ _ r => r
    have IX : Inv X pins σ H' { sI with heap := G } := I3.call' (ch := fp) (s' := { sI with heap := G }) I'.os baseG hokG I'.bare fun b hb => ⟨(f3 b hb).1.2.2.2.1, (f3 b hb).1.2.1, (f3 b hb).1.2.2.2.2.1, (f3 b hb).1.2.2.2.2.2⟩
    rw [passOn_of cF]
    unfold PySem.passOn
    refine wpAny_bind (wpAny_field ((sb.2 a aC).trans e1) e3 e4 ?_)
    rw [if_neg (show ¬ ((Value.ref T == Value.none) = true) from by simp)]
    have fin : wpAny (model X.prog X.w) X.A (setFlight (.ref a) X.env.frame) (fun _ s4 => wpAny (model X.prog X.w) X.A (throw (.ref a) : Sem Value) (fun _ _ => False) X.xe s4) X.xe { s' with heap := h2 } := by
      rw [hf]
      refine HandSPX.setFlight_onZ hh2 fun h3 hh3 up3 => wpAny_throw (tk _ _ ?_)
      refine ⟨a, B', { sI with heap := G }, pins, σ, H', cls, d, rfl, IX, fun b o e hb => ?_, fun b o e hnf => ?_, .inr (.inr (by rw [hs]; exact hh3)), na, os, ag, hW _ _ _ _ w⟩
      · obtain ⟨n, e'⟩ := inG b o e
        exact (b1 b (by simp [n])).trans (nb b o e' hb)
      · obtain ⟨n, e'⟩ := inG b o e
        obtain ⟨sl, q⟩ := (up.trans up1) b o e' hnf
        exact up3 b { o with slots := sl } ((sb.2 b n).trans q) hnf
    first
      | exact wpAny_bind (wpAny_pure (wpAny_bind fin))
      | exact wpAny_bind fin
  rcases sky with ⟨hB, hn, hl, oe, vs, he, hz, hd, h1⟩ | fl | hd
  · exact PXN.look_newZ L2N.Zn.steady hfr (by rw [← hst]; exact hl) hf he hB hn hd h1 hz fun h' hh up' => key h' hh up'
  · rw [hst] at fl
    exact PXN.looks_onZ L2N.Zn.steady hfr hf fl fun h' hh up' => key h' hh up'
  · rw [hst] at hd
    exact look_elseZ L2N.Zn.steady hCL hfr hf hd fun h' hh up' => key h' hh up'
end
end Kp
set_option Elab.async false
set_option linter.all false
set_option maxRecDepth 100000
set_option maxHeartbeats 4000000
namespace Kp
open PySem PySem.Spec PyProof.Rows L2

/-! ### the comprehension whose item may raise, as a reading -/
section
variable {X : Cx}
theorem lcx_core {pins : List (Addr × Obj)} {s : Shared} {σ : L2.St} {H : Hp} {Q : VK} {W Wb : WX} {elt tg iter : Expr} {ifs : List Expr} {scope : Scope} {own : List (Str × Nat)} {pos pos' : Pos} {wi : TI} {g : TG} {tt : TT} {te : TE} {use : Option (Value → Sem Unit)} {Qf : Value → Shared → Prop}
    (hstk : X.stack = X.env :: X.outer) (hfrm : X.env.frame = some X.env.locals) (tk : L2N.Takes X W) (hW : ∀ c d σb H', Wb c d σb H' → W c d σ H')
    (hc : X.calm = true) (hN : X.N.Nodup) (I : Inv X pins σ H s) (hi : PI X tg iter wi) (ok : BlkOk X.N X.env.scope scope own)
    (hg : ∀ (s : Shared) (H : Hp) (C : Addr) (cl : List (Str × Addr)) (fp : List Addr) (xe : Value → Shared → Prop), PG (blkX X s H scope (compEnvC scope cl C X.env) fp xe) tg g)
    (ht : ∀ (s : Shared) (H : Hp) (C : Addr) (cl : List (Str × Addr)) (fp : List Addr) (xe : Value → Shared → Prop), PTs (blkX X s H scope (compEnvC scope cl C X.env) fp xe) ifs tt)
    (he : ∀ (s : Shared) (H : Hp) (C : Addr) (cl : List (Str × Addr)) (fp : List Addr) (xe : Value → Shared → Prop), L2N.Takes (blkX X s H scope (compEnvC scope cl C X.env) fp xe) Wb → PE (blkX X s H scope (compEnvC scope cl C X.env) fp xe) elt te) (hsf : ∀ x, foldedSetIterable iter X.env x = pure x)
    (h : tLc wi g tt te (own.map (·.2)) σ H Q)
    (hRR : ∀ D C s' m H', Inv X pins σ H' s' → Q (.ref D) H' → s'.heap.Ns C m → FpOk X pins H' C → compPost (model X.prog X.w) X.A X.xe use Qf (.ref D) C (.ok .next) s') :
    wpAny (model X.prog X.w) X.A (comprehension (.ListComp elt [⟨tg, iter, ifs, 0⟩] scope pos) scope X.env pos' (newList []) false (eval iter X.env) use) Qf X.xe s := by
  have cls : ∀ y ∈ scope.names, y.2 = .free → ∃ c, X.env.cells.lookup y.1 = some c := fun y hy e => (ok.free y hy e).elim (fun k => I.ok.has _ (.inl k)) fun k => I.ok.has _ (.inr k)
  refine comp_raise (use := use) rfl hsf (closure_ok cls) ok.kind (fun y hy e => by rw [ok.uniq y hy, e]) (thn (hi.run pins s σ H _ I h) fun xv s1 hx => thn hx fun itv s2 h2 => ?_)
  obtain ⟨it, fp, tn, J, H2, e, I2, T, st2, f2, q⟩ := h2
  subst e
  refine wpAny_newObj_type (newEnv_comp ?_) (by show 0 ≤ sizeLine; decide)
  generalize hD : s2.heap.objs.size = D
  have hDn : H2 D = none := I2.hok.fresh (Nat.le_of_eq hD)
  obtain ⟨Wt, ⟨m0, w0⟩, turn⟩ := q D hDn
  generalize hs3 : ({ s2 with heap := s2.heap.push { cls := .type "list", data := .seq ([] : List Value).toArray } } : Shared) = z3
  have h3 : z3.heap = s2.heap.push { cls := .type "list", data := .seq ([] : List Value).toArray } := by rw [← hs3]
  have J3 : Inv X pins σ (upd H2 D (.lst [])) z3 := by
    rw [← hs3]
    exact I2.laid (t' := s2.toks) (fun b o e => Heap.get?_push_of_some _ e) (Nat.le_of_eq hD) ⟨Nat.zero_le _, [], 0, .nil, by rw [← hD]; exact Heap.get?_push_size _ rfl⟩
  have f3 : ∀ b ∈ fp, FpOk X pins (upd H2 D (.lst [])) b ∧ b < z3.heap.objs.size := fun b hb => by
    obtain ⟨o, e, _⟩ := T.obj _ _ st2 b hb
    have lt := Heap.lt_size e
    exact ⟨⟨by rw [upd_ne (by rw [← hD]; exact Nat.ne_of_lt lt)]; exact (f2 b hb).1, (f2 b hb).2⟩, by rw [h3, Heap.size_push]; exact Nat.lt_succ_of_lt lt⟩
  have st3 : tn 0 z3.heap := T.keep _ _ _ st2 fun b _ o e => by rw [h3]; exact Heap.get?_push_of_some _ e
  have J4 := block_start J3 ok hN f3
  have pg := hg z3 (upd H2 D (.lst [])) z3.heap.objs.size (cellsFrom (z3.heap.objs.size + 1) scope.names (cloFrom X.env.cells scope.names [])) fp
  have pt := ht z3 (upd H2 D (.lst [])) z3.heap.objs.size (cellsFrom (z3.heap.objs.size + 1) scope.names (cloFrom X.env.cells scope.names [])) fp
  have pe := he z3 (upd H2 D (.lst [])) z3.heap.objs.size (cellsFrom (z3.heap.objs.size + 1) scope.names (cloFrom X.env.cells scope.names [])) fp
  show codeAny _ _ (.compStart (.ListComp elt [⟨tg, iter, ifs, 0⟩] scope pos) 0 (.ref it) (.ref D) (compEnvC scope (cellsFrom (z3.heap.objs.size + 1) scope.names (cloFrom X.env.cells scope.names [])) z3.heap.objs.size X.env)) (compEnd (model X.prog X.w) X.A X.xe use Qf (.ref D) (compEnvC scope (cellsFrom (z3.heap.objs.size + 1) scope.names (cloFrom X.env.cells scope.names [])) z3.heap.objs.size X.env)) { z3 with heap := pushCells (z3.heap.push { cls := .type "dict", data := .dict #[] }) scope.names }
  have nfp : ∀ b ∈ fp, (upd H2 D (.lst [])) b = none := fun b hb => (f3 b hb).1.1
  generalize hce : compEnvC scope (cellsFrom (z3.heap.objs.size + 1) scope.names (cloFrom X.env.cells scope.names [])) z3.heap.objs.size X.env = ce at J4 pg pt pe ⊢
  have cL : ce.locals = z3.heap.objs.size := by subst hce; rfl
  have cF : ce.frame = X.env.frame := by subst hce; rfl
  generalize hH3 : upd H2 D (.lst []) = H3 at J3 J4 pg pt pe w0 nfp f3
  generalize hs4 : ({ z3 with heap := pushCells (z3.heap.push { cls := .type "dict", data := .dict #[] }) scope.names } : Shared) = z4 at J4 ⊢
  have st4 : tn 0 z4.heap := T.keep _ _ _ st3 fun b _ o e => by rw [← hs4]; exact pushCells_keeps _ _ _ _ (Heap.get?_push_of_some _ e)
  -- the block's wish of exceptions
  generalize hxe : (fun u s' => L2N.XE (X.blk z3 H3 scope ce fp) Wb u s') = xe
  have tkB : L2N.Takes (blkX X z3 H3 scope ce fp xe) Wb := fun u s' x => by
    obtain ⟨a, B, sI, pins', σb, H', cls, d, e, I', r⟩ := x
    rw [← hxe]
    exact ⟨a, B, sI, pins', σb, H', cls, d, e, Inv.xe0 (X := X.blk z3 H3 scope ce fp) I', r⟩
  have out : ∀ u s', xe u s' → notedBy (model X.prog X.w) X.A ce (fun e s' => compEnd (model X.prog X.w) X.A X.xe use Qf (.ref D) ce (.error e) s') u s' := fun u s' x => by
    rw [← hxe] at x
    exact blk_err hstk hfrm J3 cL cF f3 tk hW x
  replace pg := pg xe
  replace pt := pt xe
  replace pe := pe xe tkB
  replace J4 : Inv (blkX X z3 H3 scope ce fp xe) [] (wipe σ (own.map (·.2))) H3 z4 := Inv.xe' J4
  have stat : ∀ {σ' : L2.St} {H' : Hp} {s' : Shared}, Inv (blkX X z3 H3 scope ce fp xe) [] σ' H' s' → (∀ b ∈ fp, H' b = none) → ∀ b ∈ fp, FpOk (blkX X z3 H3 scope ce fp xe) [] H' b := fun {σ' H' s'} I' hn b hb =>
    ⟨hn b hb, (I'.ok.exf b hb).1, I'.ok.exfs b hb, .inl hb, fun x c e => (I'.ok.exf b hb).2 x c e, fun p hp => absurd (show p ∈ ([] : List (Addr × Obj)) ++ [] from hp) (by simp)⟩
  have loop : codeAny (model X.prog X.w) X.A (.compLoop (.ListComp elt [⟨tg, iter, ifs, 0⟩] scope pos) 0 (.ref it) (.ref D) ce) (compEnd (model X.prog X.w) X.A X.xe use Qf (.ref D) ce) z4 := by
    refine compLoop_any (fun n s' => ∃ i H', Inv (blkX X z3 H3 scope ce fp xe) [] (wipe σ (own.map (·.2))) H' s' ∧ tn i s'.heap ∧ (∀ b ∈ fp, H' b = none) ∧ Wt i n H') ?_ m0 ⟨0, H3, J4, st4, nfp, w0⟩
    rintro n s5 ⟨i, H5, J5, st5, n5, w5⟩
    rcases turn i n H5 w5 with ⟨stop, qq⟩ | ⟨go, Nx, hNx, step⟩
    · refine thnF (T.done (blkX X z3 H3 scope ce fp xe) rfl rfl rfl hc i [] s5 _ H5 (fun _ _ => False) J5 (stat J5 n5) st5 stop) fun r s6 ⟨hr, J6⟩ => ?_
      subst hr
      have J7 : Inv X pins σ H5 s6 := J3.call' (ch := fp) J6.os J6.base J6.hok J6.bare fun b hb => ⟨(f3 b hb).1.2.2.2.1, (f3 b hb).1.2.1, (f3 b hb).1.2.2.2.2.1, (f3 b hb).1.2.2.2.2.2⟩
      have nC : H5 z3.heap.objs.size = none := by
        rw [← cL]
        exact J6.free
      obtain ⟨m, hn, _⟩ := J6.loc
      have hn : s6.heap.Ns ce.locals m := hn
      refine hRR D ce.locals s6 m H5 J7 qq hn ?_
      rw [cL]
      exact J3.fpOk (Nat.le_refl _) nC
    · refine thnF (T.item (blkX X z3 H3 scope ce fp xe) rfl rfl rfl hc i [] s5 _ H5 (fun _ _ => False) J5 (stat J5 n5) st5 go) fun r s6 ⟨u, hr, h6⟩ => ?_
      subst hr
      refine thnF h6 fun _ s7 ⟨x, H7, J7, r7, y7, st7, n7⟩ => ?_
      have J7' := J7.pinned (stat J7 n7) (T.obj _ _ st7)
      refine wpAny_mono (pg.run _ s7 _ H7 x u _ J7' r7 (step x H7 y7)) (fun _ s8 ⟨σ8, H8, J8, hw8, q8⟩ => ?_) out
      refine wpAny_mono (pt.run _ s8 σ8 H8 _ J8 q8) (fun b s9 ⟨H9, J9, q9⟩ => ?_) out
      have fin : ∀ {s' : Shared} {H' : Hp}, Inv (blkX X z3 H3 scope ce fp xe) ([] ++ pinsAt fp s7.heap) σ8 H' s' → Nx H' → ∃ m, m < n ∧ ∃ i H', Inv (blkX X z3 H3 scope ce fp xe) [] (wipe σ (own.map (·.2))) H' s' ∧ tn i s'.heap ∧ (∀ b ∈ fp, H' b = none) ∧ Wt i m H' := fun {s' H'} I' nx => by
        obtain ⟨m', hm, w'⟩ := hNx H' nx
        have stay : ∀ b ∈ fp, ∀ o, s7.heap.get? b = some o → s'.heap.get? b = some o ∧ H' b = none := fun b hb o e =>
          let z := I'.pin (b, o) (List.mem_append_right _ (List.mem_append_right _ (mem_pinsAt hb e)))
          ⟨z.1, z.2.1⟩
        refine ⟨m', hm, i + 1, H', (I'.unpinned (pins := [])).weak (by rw [← hw8, wipe_length]) (fun j v e => ?_), T.keep _ _ _ st7 fun b hb o e => (stay b hb o e).1, fun b hb => ?_, w'⟩
        · rw [← hw8] at e
          exact (wipe_some e).1
        · obtain ⟨o, e, _⟩ := T.obj _ _ st7 b hb
          exact (stay b hb o e).2
      cases b with
      | false =>
        simp only [Bool.false_eq_true, if_false] at q9 ⊢
        exact fin J9 q9
      | true =>
        simp only [if_true] at q9 ⊢
        refine wpAny_mono (pe.run _ s9 σ8 H9 _ J9 q9) (fun z s10 ⟨yv, H10, J10, r10, acc, hD10, hz10, nx⟩ => ?_) out
        exact app_ok (X := blkX X z3 H3 scope ce fp xe) J10 hD10 hz10 r10 fun s11 J11 => fin J11 nx
  exact codeAny_compStart_list loop (T.self X.A 0 _ _ _ st4 loop)
/-- [..] whose item may raise -/
def tLcX (wi : TI) (g : TG) (tt : TT) (te : WX → TE) (vs : List Nat) (W : WX) : TE := fun σ H Q => tLc wi g tt (te fun c d _ H' => W c d σ H') vs σ H Q
theorem pe_lcx {W : WX} {elt tg iter : Expr} {ifs : List Expr} {scope : Scope} {own : List (Str × Nat)} {pos : Pos} {wi : TI} {g : TG} {tt : TT} {te : WX → TE} (hstk : X.stack = X.env :: X.outer) (hfrm : X.env.frame = some X.env.locals) (tk : L2N.Takes X W) (hc : X.calm = true) (hN : X.N.Nodup) (hi : PI X tg iter wi) (ok : BlkOk X.N X.env.scope scope own)
    (hg : ∀ (s : Shared) (H : Hp) (C : Addr) (cl : List (Str × Addr)) (fp : List Addr) (xe : Value → Shared → Prop), PG (blkX X s H scope (compEnvC scope cl C X.env) fp xe) tg g)
    (ht : ∀ (s : Shared) (H : Hp) (C : Addr) (cl : List (Str × Addr)) (fp : List Addr) (xe : Value → Shared → Prop), PTs (blkX X s H scope (compEnvC scope cl C X.env) fp xe) ifs tt)
    (he : ∀ (Wb : WX) (s : Shared) (H : Hp) (C : Addr) (cl : List (Str × Addr)) (fp : List Addr) (xe : Value → Shared → Prop), L2N.Takes (blkX X s H scope (compEnvC scope cl C X.env) fp xe) Wb → PE (blkX X s H scope (compEnvC scope cl C X.env) fp xe) elt (te Wb)) (hs : ∀ x, foldedSetIterable iter X.env x = pure x := by intro _; rfl) :
    PE X (.ListComp elt [⟨tg, iter, ifs, 0⟩] scope pos) (tLcX wi g tt te (own.map (·.2)) W) := by
  refine ⟨fun pins s σ H Q I h => ?_⟩
  rw [eval_ListComp]
  refine lcx_core hstk hfrm tk (Wb := fun c d _ H' => W c d σ H') (fun c d _ H' z => z) hc hN I hi ok hg ht (he _) hs h fun D C s' m H' I' q hn f => ⟨m, hn, fun h'' sb => ?_⟩
  obtain ⟨f0, f1, f2, f3, f4, f5⟩ := f
  exact ⟨.ref D, H', I'.turned (t' := s'.toks) (fun b o hb e => (sb.2 b hb).trans e) f0 f1 f3 f4 f5, rfl, q⟩
end

/-! ### what it computes -/
inductive LcR where
  | ok (zs : List PV) (S : Sto) | ex (c : Nat) (fs : List (Str × PV)) (S : Sto)
def LcR.cons (z : PV) : LcR → LcR
  | .ok zs S => .ok (z :: zs) S
  | .ex c fs S => .ex c fs S
def lcGoX (vs : List Nat) (g : PV → Sto → Option Sto) (mt : M Bool) (me : M PV) : List PV → Sto → Option LcR
  | [], S => some (.ok [] S)
  | y :: ys, S => match g y S with
    | none => none
    | some S1 => match mt S1 with
      | some (.ok true S2) => match me S2 with
        | some (.ok z S3) => (lcGoX vs g mt me ys (wipeS S3 vs)).map (LcR.cons z)
        | some (.ex c fs S3) => some (.ex c fs S3)
        | none => none
      | some (.ok false S2) => lcGoX vs g mt me ys (wipeS S2 vs)
      | _ => none
def mLcX (vs : List Nat) (mi : M (List PV)) (g : PV → Sto → Option Sto) (mt : M Bool) (me : M PV) : M PV := fun S => match mi S with
  | some (.ok ys S1) => if ys.length ≤ sizeLine ∧ plainAt S1 vs = true then match lcGoX vs g mt me ys (wipeS S1 vs) with
      | some (.ok zs S2) => some (.ok (.lst zs) (backS S1 S2 vs))
      | some (.ex c fs S2) => some (.ex c fs (backS S1 (wipeS S2 vs) vs))
      | none => none
    else none
  | _ => none
section
variable {X : Cx} {cl : Nat → Addr} {W : WX} {pos : Pos}
theorem does_lcx {vs : List Nat} {wi : TI} {tg : TG} {tt : TT} {te : WX → TE} {mi : M (List PV)} {g : PV → Sto → Option Sto} {mt : M Bool} {me : M PV} (hi : DoesI X.K cl W wi mi) (hg : DoesG X.K cl tg g) (hgi : gIn vs tg)
    (ht : Does X.K cl W0 RB tt mt) (he : ∀ Wb, Does X.K cl Wb (RV X.K cl) (te Wb) me) : Does X.K cl W (RV X.K cl) (tLcX wi tg tt te vs W) (mLcX vs mi g mt me) := by
  intro F G H σ S r Q st hm hp
  unfold mLcX at hm
  split at hm <;> try (cases hm; done)
  rename_i ys S1 e1
  split at hm <;> try (cases hm; done)
  rename_i c
  obtain ⟨hlen, hpl⟩ := c
  cases eg : lcGoX vs g mt me ys (wipeS S1 vs) with
  | none => rw [eg] at hm; cases hm
  | some R =>
  rw [eg] at hm
  refine hi F G H σ S ys S1 _ st e1 fun J G1 H1 s1 st1 hw => ?_
  intro D hD
  have plain : ∀ i ∈ vs, ∀ y, S1[i]? = some (some y) → ∃ x, y = .p x := fun i hi y e => by
    have z := List.all_eq_true.mp hpl i hi
    rw [e] at z
    cases y <;> first | exact ⟨_, rfl⟩ | cases z
  have hio : ∀ i ∈ vs, F.io i = none := fun i hi => by
    cases q : F.io i with
    | none => rfl
    | some a =>
      obtain ⟨x, hx⟩ := st1.io i a q
      have z := List.all_eq_true.mp hpl i hi
      rw [hx] at z
      cases z
  have fr := st1.rfree hD
  have stw := st1.wiped (σ := σ) (vs := vs) rfl hio
  have st2 := stw.rsvNew (o := .lst []) hD fun i x e z => by
    obtain ⟨a, ea, _, _, q⟩ := stw.own i x e
    rw [z] at ea
    cases ea
    obtain ⟨o, ho⟩ := q.there
    rw [hD] at ho
    cases ho
  refine ⟨fun i n H' => n + i = ys.length ∧ ∃ (G' : Hp) (S' : Sto) (acc : List V) (done : List PV) (R' : LcR), Same G1 G' ∧ acc.length ≤ i ∧ StOk X.K cl { F with R := fun b => if b = D then some (.lst acc) else F.R b } G' H' (wipe σ vs) S' ∧ RepL X.K cl G' acc done ∧ done.length ≤ i ∧
    lcGoX vs g mt me (ys.drop i) S' = some R' ∧ (match R' with
      | .ok rest S2 => r = .ok (.lst (done ++ rest)) (backS S1 S2 vs)
      | .ex c fs S2 => r = .ex c fs (backS S1 (wipeS S2 vs) vs)), ⟨ys.length, Nat.add_zero _, G1, _, [], [], R, Same.refl _, Nat.zero_le _, st2, .nil, Nat.zero_le _, eg, ?_⟩, ?_⟩
  · cases R with
    | ok zs S2 => exact (Option.some.inj hm).symm
    | ex c fs S2 => exact (Option.some.inj hm).symm
  rintro i n H' ⟨hn, G', S', acc, dn, R', s', hacc, st', rl, hdn, hl, hr⟩
  obtain ⟨hgo, hstop⟩ := hw i G' H' s' st'.ex
  cases e : ys[i]? with
  | none =>
    have hle : ys.length ≤ i := List.getElem?_eq_none_iff.mp e
    refine .inl ⟨hstop hle, ?_⟩
    rw [List.drop_eq_nil_of_le hle] at hl
    unfold lcGoX at hl
    cases hl
    simp only [List.append_nil] at hr
    subst hr
    obtain ⟨st3, gD⟩ := st'.rsvEnd fr
    have hzl : acc.length ≤ sizeLine := Nat.le_trans hacc (by omega)
    refine hp _ _ _ ((s1.trans s').trans (same_new gD)) (StOk.back st1 (s'.trans (same_new gD)) st3 plain hio) ?_
    exact .lst upd_same hzl (rl.mono (same_new gD))
  | some y =>
    obtain ⟨hlt, _⟩ := List.getElem?_eq_some_iff.mp e
    have hd : ys.drop i = y :: ys.drop (i + 1) := by
      rw [List.drop_eq_getElem_cons hlt]
      have z := List.getElem?_eq_getElem hlt
      rw [e] at z
      rw [← Option.some.inj z]
    rw [hd] at hl
    unfold lcGoX at hl
    obtain ⟨go, hy⟩ := hgo y e
    refine .inr ⟨go, fun H3 => (n - 1) + (i + 1) = ys.length ∧ ∃ (G' : Hp) (S' : Sto) (acc : List V) (done : List PV) (R' : LcR), Same G1 G' ∧ acc.length ≤ i + 1 ∧ StOk X.K cl { F with R := fun b => if b = D then some (.lst acc) else F.R b } G' H3 (wipe σ vs) S' ∧ RepL X.K cl G' acc done ∧ done.length ≤ i + 1 ∧
      lcGoX vs g mt me (ys.drop (i + 1)) S' = some R' ∧ (match R' with
        | .ok rest S2 => r = .ok (.lst (done ++ rest)) (backS S1 S2 vs)
        | .ex c fs S2 => r = .ex c fs (backS S1 (wipeS S2 vs) vs)), fun H3 q => ⟨n - 1, by omega, q⟩, fun x H3 hx => ?_⟩
    obtain ⟨G3, s3, st3, r3⟩ := st'.res1 (hy x H3 hx)
    cases eg1 : g y S' with
    | none => rw [eg1] at hl; cases hl
    | some Sg =>
      rw [eg1] at hl
      refine hgi x σ H3 (fun σ' H' => H' = H3 ∧ StOk X.K cl { F with R := fun b => if b = D then some (.lst acc) else F.R b } G3 H3 σ' Sg) _ (hg _ G3 H3 _ S' Sg x y _ st3 r3 eg1 fun σ4 st4 => ⟨rfl, st4⟩) fun σ4 H4 hwσ q4 => ⟨hwσ, ?_⟩
      obtain ⟨rfl, st4⟩ := q4
      simp only [] at hl
      cases et : mt Sg with
      | none => rw [et] at hl; cases hl
      | some rt =>
        rw [et] at hl
        cases rt with
        | ex c fs S5 => cases hl
        | ok b S5 =>
          refine ht _ G3 _ σ4 Sg _ _ st4 et ?_
          intro b' G5 H5 s5 st5 hb
          cases hb
          cases b with
          | false =>
            simp only [] at hl
            rw [if_neg Bool.false_ne_true]
            exact ⟨by omega, G5, _, acc, dn, R', (s'.trans s3).trans s5, Nat.le_succ_of_le hacc, st5.wiped hwσ hio, (rl.mono s3).mono s5, Nat.le_succ_of_le hdn, hl, hr⟩
          | true =>
            simp only [] at hl
            rw [if_pos rfl]
            cases ee : me S5 with
            | none => rw [ee] at hl; cases hl
            | some re =>
              rw [ee] at hl
              refine he _ _ G5 H5 σ4 S5 _ _ st5 ee ?_
              cases re with
              | ex c fs S6 =>
                cases hl
                simp only [] at hr
                subst hr
                intro d gs G6 H6 s6 st6 hd6 rf6
                have st7 := (st6.wiped hwσ hio).rsvEnd fr
                obtain ⟨st7, gD⟩ := st7
                have hdR : F.R d = none := by
                  have z := hd6.2.2
                  have z : (if d = D then some (HO.lst acc) else F.R d) = none := z
                  split at z
                  · cases z
                  · exact z
                exact hp d gs _ _ ((((s1.trans s').trans s3).trans s5).trans (s6.trans (same_new gD))) (StOk.back st1 (((s'.trans s3).trans s5).trans (s6.trans (same_new gD))) st7 plain hio) ⟨hd6.1, hd6.2.1, hdR⟩ (rf6.mono (same_new gD))
              | ok z S6 =>
                simp only [] at hl
                cases eg6 : lcGoX vs g mt me (ys.drop (i + 1)) (wipeS S6 vs) with
                | none => rw [eg6] at hl; cases hl
                | some R6 =>
                  rw [eg6] at hl
                  have hl := Option.some.inj hl
                  subst hl
                  intro w G6 H6 s6 st6 rw'
                  have hH := (st6.rsv D (.lst acc) (if_pos rfl)).1
                  refine ⟨acc, hH, by omega, by omega, G6, _, acc ++ [w], dn ++ [z], R6, ((s'.trans s3).trans s5).trans s6, by rw [List.length_append, List.length_singleton]; omega,
                    StOk.rsvSet (st6.wiped hwσ hio), (((rl.mono s3).mono s5).mono s6).append (.one rw'), by rw [List.length_append, List.length_singleton]; omega, eg6, ?_⟩
                  cases R6 with
                  | ok rest S2 =>
                    simp only [LcR.cons] at hr ⊢
                    rw [hr, List.append_assoc]
                    rfl
                  | ex c fs S2 => exact hr
/-- its parts -/
structure LcMX (X : Cx) (cl : Nat → Addr) (W : WX) (elt tg iter : Expr) (ifs : List Expr) (scope : Scope) (own : List (Str × Nat)) (mi : M (List PV)) (g : PV → Sto → Option Sto) (mt : M Bool) (me : M PV) : Prop where
  hi : IM X cl W tg iter mi
  ok : BlkOk X.N X.env.scope scope own
  hg : ∃ t, (∀ (s : Shared) (H : Hp) (C : Addr) (cl' : List (Str × Addr)) (fp : List Addr) (xe : Value → Shared → Prop), PG (blkX X s H scope (compEnvC scope cl' C X.env) fp xe) tg t) ∧ DoesG X.K cl t g ∧ gIn (own.map (·.2)) t
  ht : ∃ tt, (∀ (s : Shared) (H : Hp) (C : Addr) (cl' : List (Str × Addr)) (fp : List Addr) (xe : Value → Shared → Prop), PTs (blkX X s H scope (compEnvC scope cl' C X.env) fp xe) ifs tt) ∧ Does X.K cl W0 RB tt mt
  he : ∀ (Wb : WX), ∃ te, (∀ (s : Shared) (H : Hp) (C : Addr) (cl' : List (Str × Addr)) (fp : List Addr) (xe : Value → Shared → Prop), L2N.Takes (blkX X s H scope (compEnvC scope cl' C X.env) fp xe) Wb → PE (blkX X s H scope (compEnvC scope cl' C X.env) fp xe) elt te) ∧ Does X.K cl Wb (RV X.K cl) te me
theorem LcMX.em {elt tg iter : Expr} {ifs : List Expr} {scope : Scope} {own : List (Str × Nat)} {mi : M (List PV)} {g : PV → Sto → Option Sto} {mt : M Bool} {me : M PV} (h : LcMX X cl W elt tg iter ifs scope own mi g mt me) (hstk : X.stack = X.env :: X.outer) (hfrm : X.env.frame = some X.env.locals) (tk : L2N.Takes X W) (hc : X.calm = true) (hN : X.N.Nodup)
    (hs : ∀ x, foldedSetIterable iter X.env x = pure x := by intro _; rfl) : EM X cl W (.ListComp elt [⟨tg, iter, ifs, 0⟩] scope pos) (mLcX (own.map (·.2)) mi g mt me) := by
  obtain ⟨t, pg, dg, gi⟩ := h.hg
  obtain ⟨wi, pi, di⟩ := h.hi
  obtain ⟨tt, pt, dt⟩ := h.ht
  exact ⟨_, pe_lcx hstk hfrm tk hc hN pi h.ok pg pt (te := fun Wb => Classical.choose (h.he Wb)) (fun Wb => (Classical.choose_spec (h.he Wb)).1) hs, does_lcx di dg gi dt fun Wb => (Classical.choose_spec (h.he Wb)).2⟩
theorem blk_emX {elt : Expr} {scope : Scope} {me : M PV} (h : ∀ (Wb : WX) (s : Shared) (H : Hp) (C : Addr) (cl' : List (Str × Addr)) (fp : List Addr) (xe : Value → Shared → Prop), L2N.Takes (blkX X s H scope (compEnvC scope cl' C X.env) fp xe) Wb → EM (blkX X s H scope (compEnvC scope cl' C X.env) fp xe) cl Wb elt me) (Wb : WX) :
    ∃ te, (∀ (s : Shared) (H : Hp) (C : Addr) (cl' : List (Str × Addr)) (fp : List Addr) (xe : Value → Shared → Prop), L2N.Takes (blkX X s H scope (compEnvC scope cl' C X.env) fp xe) Wb → PE (blkX X s H scope (compEnvC scope cl' C X.env) fp xe) elt te) ∧ Does X.K cl Wb (RV X.K cl) te me := by
  refine ⟨fun σ H Q => ∀ (s : Shared) (H0 : Hp) (C : Addr) (cl' : List (Str × Addr)) (fp : List Addr) (xe : Value → Shared → Prop) (tk : L2N.Takes (blkX X s H0 scope (compEnvC scope cl' C X.env) fp xe) Wb), Classical.choose (h Wb s H0 C cl' fp xe tk) σ H Q, fun s H0 C cl' fp xe tk => ?_, fun F G H σ S r Q st hm hp s H0 C cl' fp xe tk => ?_⟩
  · exact ⟨fun pins s2 σ H Q I q => (Classical.choose_spec (h Wb s H0 C cl' fp xe tk)).1.run pins s2 σ H Q I (q s H0 C cl' fp xe tk)⟩
  · exact (Classical.choose_spec (h Wb s H0 C cl' fp xe tk)).2 F G H σ S r Q st hm hp
theorem blk_tsX {ifs : List Expr} {scope : Scope} {mt : M Bool} (h : ∀ (s : Shared) (H : Hp) (C : Addr) (cl' : List (Str × Addr)) (fp : List Addr) (xe : Value → Shared → Prop), TsM (blkX X s H scope (compEnvC scope cl' C X.env) fp xe) cl W0 ifs mt) :
    ∃ tt, (∀ (s : Shared) (H : Hp) (C : Addr) (cl' : List (Str × Addr)) (fp : List Addr) (xe : Value → Shared → Prop), PTs (blkX X s H scope (compEnvC scope cl' C X.env) fp xe) ifs tt) ∧ Does X.K cl W0 RB tt mt := by
  refine ⟨fun σ H Q => ∀ (s : Shared) (H0 : Hp) (C : Addr) (cl' : List (Str × Addr)) (fp : List Addr) (xe : Value → Shared → Prop), Classical.choose (h s H0 C cl' fp xe) σ H Q, fun s H0 C cl' fp xe => ?_, fun F G H σ S r Q st hm hp s H0 C cl' fp xe => ?_⟩
  · exact ⟨fun pins s2 σ H Q I q => (Classical.choose_spec (h s H0 C cl' fp xe)).1.run pins s2 σ H Q I (q s H0 C cl' fp xe)⟩
  · exact (Classical.choose_spec (h s H0 C cl' fp xe)).2 F G H σ S r Q st hm hp
theorem blk_tgX {tg : Expr} {scope : Scope} {t : TG} {g : PV → Sto → Option Sto} {vs : List Nat} (h : ∀ (s : Shared) (H : Hp) (C : Addr) (cl' : List (Str × Addr)) (fp : List Addr) (xe : Value → Shared → Prop), PG (blkX X s H scope (compEnvC scope cl' C X.env) fp xe) tg t) (d : DoesG X.K cl t g) (gi : gInA vs t) :
    ∃ t, (∀ (s : Shared) (H : Hp) (C : Addr) (cl' : List (Str × Addr)) (fp : List Addr) (xe : Value → Shared → Prop), PG (blkX X s H scope (compEnvC scope cl' C X.env) fp xe) tg t) ∧ DoesG X.K cl t g ∧ gIn vs t := ⟨t, h, d, gin_of gi⟩
end
end Kp
set_option Elab.async false
set_option linter.all false
set_option maxRecDepth 100000
set_option maxHeartbeats 4000000
namespace Kp
open PySem PySem.Spec PyProof.Rows L2

/-! ### a call that changes a fresh object which nothing else holds -/
section
variable {K : PySem.W.Frag} {cl : Nat → Addr} {F : Fr} {G G' H H' : Hp} {σ : L2.St} {S : Sto} {a : Addr}
theorem StOk.grownX (k : StOk K cl F G H σ S) (hg : G a = none) (h0 : F.H0 a = none) (hR : F.R a = none) (hn : ∀ (i : Nat) (y : PV), S[i]? = some (some (.o y)) → σ[i]? ≠ some (some (V.ref a))) (g : GrownI a G H G' H') : StOk K cl F G' H' σ S := by
  have gn : ∀ {b : Addr} {o : HO}, G b = none → H b = some o → G' b = none := fun {b o} n e => by
    cases y : G' b with
    | none => rfl
    | some u => rcases g.new b u y with z | z <;> first | (rw [n] at z; cases z) | (rw [e] at z; cases z)
  have hb : ∀ {b : Addr} {z : PV}, b ≠ a → OwnAt K cl G H b z → H' b = H b := fun {b z} n q => by
    obtain ⟨o, e⟩ := q.there
    rw [e]
    exact g.h b o n e
  refine ⟨g.gh, k.ex0.trans g.g, k.len, fun j z e => ?_, fun j z e => ?_, fun j z e => ?_, k.dist, k.io, k.ioh, k.iod, fun b u e n => ?_, fun b o e => ?_, fun b o e => ?_⟩
  · obtain ⟨v, e1, r⟩ := k.val j z e
    exact ⟨v, e1, r.mono g.g⟩
  · obtain ⟨b, e1, gb, hb0, w⟩ := k.own j z e
    have ne : b ≠ a := fun zz => hn j z e (by rw [e1, zz])
    obtain ⟨o, ho⟩ := w.there
    exact ⟨b, e1, gn gb ho, hb0, w.mono g.g (hb ne w)⟩
  · obtain ⟨b, e1, gb, hb0, w⟩ := k.inn j z e
    have ne : b ≠ a := fun zz => by
      obtain ⟨u, hu⟩ := k.ioh j b hb0
      rw [zz, h0] at hu
      cases hu
    obtain ⟨o, ho⟩ := w.there
    exact ⟨b, e1, gn gb ho, hb0, w.mono g.g (hb ne w)⟩
  · exact g.h b u (fun z => by rw [z, h0] at e; cases e) (k.frame b u e n)
  · rcases g.new b o e with y | y
    · exact k.gnew b o y
    · exact .inr (k.free0 y)
  · obtain ⟨r1, r2, r3, r4⟩ := k.rsv b o e
    exact ⟨g.h b o (fun z => by rw [z, hR] at e; cases e) r1, gn r2 r1, r3, r4⟩
end
section
variable {X : Cx} {cl : Nat → Addr} {W : WX} {pos : Pos}
def ifM : Option (PV × RO) → M PV
  | some (_, .ret y) => ret y
  | some (_, .exc c fs) => fun S => some (.ex c fs S)
  | none => fun _ => none
def mCallIF (g : PV → List PV → Option (PV × RO)) (mf : M PV) : M PV := bnd mf fun x => ifM (g x [])
theorem em_callIF {x : Str} {k : Nat} {f : Addr} {fd : FuncData} {ps : List Str} {g : PV → List PV → Option (PV × RO)} {p : Pos} {e : Expr} {mf : M PV} (tk : L2N.Takes X W) (F : FnOk X.prog X.w X.K X.mg X.base (L2N.CX X.prog X.w) k f fd ps (spI X.K cl 1 g)) (hr : Room k X.A) (hm : X.mg x = some (.ref f)) (hk : PySem.W.keepIn X.K (.ref f) = true)
    (hb : Binds X.K fd ps []) (he0 : FM X cl W e mf) (hg : Gl X x := by rfl) (hdb : (x == ("__debug__" : Str)) = false := by decide) (he : starEach [e] X.env = (false, eval e X.env) :: starEach [] X.env := by rfl) (hpl : (backTo pos (starEach [] X.env)).any (·.1) = false := by rfl) :
    EM X cl W (.Call (.Name x p) [e] [] pos) (mCallIF g mf) := by
  obtain ⟨t, pt, d⟩ := he0
  refine ⟨_, pe_callS (E := WE W) F hr hg hm hk hb (fun σ => L2N.passAt tk σ) (pa_cons pt pa_nil he) hdb he hpl, fun F G H σ S r Q st hm hp => ?_⟩
  unfold mCallIF at hm
  rcases bnd_some hm with ⟨y, S1, e1, e2⟩ | ⟨c, fs, S1, e1, e2⟩
  · refine d F G H σ S _ _ st e1 ?_
    intro a G1 H1 s1 st1 ga h0 hR hns q
    cases eg : g y [] with
    | none => rw [eg] at e2; cases e2
    | some z =>
      obtain ⟨x', ro⟩ := z
      rw [eg] at e2
      cases ro with
      | ret z =>
        cases e2
        refine ⟨rfl, a, [], G1, y, x', [], .ret z, rfl, st1.ex, ga, q, .nil, eg, ?_⟩
        exact fun v G2 H2 gi _ rv => hp v G2 H2 (s1.trans gi.g) (st1.grownX ga h0 hR hns gi) rv
      | exc c fs =>
        cases e2
        refine ⟨rfl, a, [], G1, y, x', [], .exc c fs, rfl, st1.ex, ga, q, .nil, eg, ?_⟩
        exact fun dd gs G2 H2 gi _ hd rf => hp dd gs G2 H2 (s1.trans gi.g) (st1.grownX ga h0 hR hns gi) ⟨hd.1, st1.free0 hd.2, st1.rfree hd.2⟩ rf
  · subst e2
    exact d F G H σ S _ _ st e1 hp

theorem huE {k : Nat} {A : Around} (r : L2H.RoomH k A) : A.units + 64 < cLine := by have := r.un; omega
/-! ### texts -/
theorem parts_laid {pins : List (Addr × Obj)} {σ : L2.St} {H : Hp} {s : Shared} {Q : VK} {x y z : Str} {t u v : Tok} {k : Nat} (I : Inv X pins σ H s) (h : ∀ (p : Addr) (o : Obj), o.dict = none → H p = none → Q (.ref p) (upd H p (.frz o (.tup [.str x, .str y, .str z])))) :
    EP X pins σ Q (.ref s.heap.objs.size) { s with toks := k, heap := s.heap.push { cls := .type "tuple", data := .seq [Value.str x t, .str y u, .str z v].toArray } } := by
  obtain ⟨hp, g, d, tk, os⟩ := s
  exact ⟨.ref hp.objs.size, _, tup_laid (s := ⟨hp, g, d, tk, os⟩) (h' := hp) (t' := k) (ys := [.str x, .str y, .str z]) (us := [Value.str x t, .str y u, .str z v]) (I.tok k) (.cons ⟨t, rfl⟩ (.cons ⟨u, rfl⟩ (.cons ⟨v, rfl⟩ .nil))) (by show 3 ≤ sizeLine; decide), rfl, h _ _ rfl (I.hok.fresh (Nat.le_refl _))⟩
abbrev rParts : V → List V → Hp → VK → Prop := fun x xs H Q => ∃ a b, x = .str a ∧ xs = [.str b] ∧ (b.length == 0) = false ∧ a.length ≤ sizeLine ∧ ∀ (p : Addr) (o : Obj), o.dict = none → H p = none → Q (.ref p) (upd H p (.frz o (.tup [.str (Txt.partition a b).1, .str (Txt.partition a b).2.1, .str (Txt.partition a b).2.2])))
theorem mt_parts : MtR X "str.partition" rParts := by
  intro pins s σ H x xs v us Q I rx rs h
  obtain ⟨a, b, rfl, rfl, hb, hz, h⟩ := h
  obtain ⟨t, rfl⟩ := rx
  cases rs with
  | cons r1 rs =>
    cases rs
    obtain ⟨u, rfl⟩ := r1
    refine call_meets PySem.F.slot_str_partition (typeIs_str _ _ _) PySem.F.entry_str_partition (PySem.F.args_str_partition_2 _ _) (meets_str_partition a b t u hb hz) ?_
    unfold Txt.partition at h
    revert h
    cases Builtin.Str.occurrences a b 0 a.length 1 <;> exact fun h => parts_laid I h
def pParts (x y : PV) : Option PV := match x, y with
  | .str a, .str b => if (b.length == 0) = false ∧ a.length ≤ sizeLine ∧ (Txt.partition a b).1.length ≤ sizeLine ∧ (Txt.partition a b).2.1.length ≤ sizeLine ∧ (Txt.partition a b).2.2.length ≤ sizeLine then some (.tup [.str (Txt.partition a b).1, .str (Txt.partition a b).2.1, .str (Txt.partition a b).2.2]) else none
  | _, _ => none
theorem bs_parts {K : PySem.W.Frag} : BinS K cl (fun x y H Q => rParts x [y] H Q) pParts := by
  intro G H v u x y z Q e rv ru hz k
  unfold pParts at hz
  split at hz <;> try (cases hz; done)
  split at hz <;> try (cases hz; done)
  rename_i a b c
  obtain ⟨c1, c2, c3, c4, c5⟩ := c
  cases hz
  cases rv
  cases ru
  refine ⟨_, _, rfl, rfl, c1, c2, fun p o ho hp => k _ _ (.inr ⟨p, _, hp, rfl, .tup (tupAt_new ho) (by show 3 ≤ sizeLine; decide) (.cons (.str _ c3) (.cons (.str _ c4) (.cons (.str _ c5) .nil)))⟩)⟩
theorem em_parts {o e : Expr} {apos : Pos} {mo me : M PV} (ho : EM X cl W o mo) (he : EM X cl W e me) (hs : starEach [e] X.env = [(false, eval e X.env)] := by rfl) (hbase : attributeBase o "partition" X.env (eval o X.env) = eval o X.env := by rfl) (hline : (apos.endLine == pos.line) = true := by rfl) :
    EM X cl W (.Call (.Attribute o "partition" apos) [e] [] pos) (mBinS pParts mo me) := em_m1 PySem.F.slot_str_partition PySem.F.type_str_partition mt_parts bs_parts ho he hs hbase hline
/-- str(i) -/
def pStrI : List PV → Option PV
  | [.int i] => if i.natAbs.log2 < 1920 ∧ (toString i : Str).length ≤ sizeLine then some (.str (toString i)) else none
  | _ => none
theorem cs_strI {K : PySem.W.Frag} : CallS K cl (fun xs H Q => ∃ i, xs = [V.int i] ∧ i.natAbs.log2 < 1920 ∧ Q (.str (toString i)) H) pStrI := by
  intro G H vs xs z Q e rl hz k
  unfold pStrI at hz
  split at hz <;> try (cases hz; done)
  split at hz <;> try (cases hz; done)
  rename_i i c
  cases hz
  cases rl with
  | cons r1 r2 =>
    cases r2
    cases r1
    exact ⟨i, rfl, c.1, k _ _ (.inl ⟨rfl, .str _ c.2⟩)⟩
/-- int(text) -/
def pIntS : List PV → Option PV
  | [.str a] => if a.length ≤ 640 then (PySem.intText? a).map PV.int else none
  | _ => none
theorem cs_intS {K : PySem.W.Frag} : CallS K cl (fun xs H Q => ∃ a n, xs = [V.str a] ∧ PySem.intText? a = some n ∧ a.length ≤ 640 ∧ Q (.int n) H) pIntS := by
  intro G H vs xs z Q e rl hz k
  unfold pIntS at hz
  split at hz <;> try (cases hz; done)
  split at hz <;> try (cases hz; done)
  rename_i a c
  cases ei : PySem.intText? a with
  | none => rw [ei] at hz; cases hz
  | some n =>
    rw [ei] at hz
    cases hz
    cases rl with
    | cons r1 r2 =>
      cases r2
      cases r1
      exact ⟨a, n, rfl, ei, c, k _ _ (.inl ⟨rfl, .int _⟩)⟩
/-- a list times a number -/
def pMulL (x y : PV) : Option PV := match x, y with
  | .lst xs, .int k => if 0 ≤ k ∧ k ≤ 1000 ∧ xs.length ≤ 1000 then some (.lst (List.replicate k.toNat xs).flatten) else none
  | _, _ => none
theorem br_mulL : BinR X cl (binaryOp .Mult) pMulL := by
  refine ⟨_, op_rep, ?_⟩
  intro G H v u x y z Q e rv ru hz k
  unfold pMulL at hz
  split at hz <;> try (cases hz; done)
  split at hz <;> try (cases hz; done)
  rename_i xs i c
  cases hz
  cases ru
  cases rv with
  | lst hs hzz hr =>
    have hl := hr.length
    have a1 : xs.length * i.toNat ≤ 1000 * 1000 := Nat.mul_le_mul c.2.2 (by omega)
    refine ⟨_, i, _, rfl, rfl, e _ _ hs, by omega, by omega, by rw [hl, sizeLine_eq]; omega, fun p hp => k _ _ (.inr ⟨p, _, hp, rfl, .lst upd_same ?_ ((repL_rep hr _).mono (same_new ?_))⟩)⟩
    · rw [PyProof.Rows.lm_len_rep_flat, hl, sizeLine_eq, Nat.mul_comm]
      omega
    · cases q : G p with
      | none => rfl
      | some w => rw [e _ _ q] at hp; cases hp
/-- a text split, to be changed -/
theorem fm_split {o e : Expr} {apos : Pos} {mo me : M PV} (ho : EM X cl W o mo) (he : EM X cl W e me) (hs : starEach [e] X.env = [(false, eval e X.env)] := by rfl) (hbase : attributeBase o "split" X.env (eval o X.env) = eval o X.env := by rfl) (hline : (apos.endLine == pos.line) = true := by rfl) :
    FM X cl W (.Call (.Attribute o "split" apos) [e] [] pos) (mBinS pSplit mo me) := by
  obtain ⟨to, po, do_⟩ := ho
  obtain ⟨te, pe, de⟩ := he
  refine ⟨_, pe_split po pe hs hbase hline, fun F G H σ S r Q st hm hp => ?_⟩
  unfold mBinS at hm
  refine do_.stepF st hm hp fun x S1 v G1 H1 e1 hm1 s1 st1 rv hp1 => ?_
  cases x <;> try (cases hm1; done)
  rename_i z
  rw [show isStr (.str z) = true from rfl, if_pos rfl] at hm1
  have ev : v = .str z := by cases rv; rfl
  refine ⟨⟨z, ev⟩, ?_⟩
  refine de.stepF st1 hm1 hp1 fun y S2 u G2 H2 e2 hm2 s2 st2 ru hp2 => ?_
  obtain ⟨w, ew, rfl⟩ := lift_eq hm2
  unfold pSplit at ew
  split at ew <;> try (cases ew; done)
  split at ew <;> try (cases ew; done)
  rename_i a b ez c
  cases ez
  cases ew
  subst ev
  cases ru
  exact ⟨_, _, rfl, rfl, c.1, c.2.1, fun p hn => postF_new hp2 st2 hn ⟨_, upd_same, by rw [List.length_map]; exact Nat.le_trans (PyProof.Rows.split_le _ _) c.2.1, repL_strsB c.2.2⟩⟩
end
end Kp
set_option Elab.async false
set_option linter.all false
set_option maxRecDepth 100000
set_option maxHeartbeats 4000000
namespace Kp
open PySem PySem.Spec PyProof.Rows L2
def nth {α : Type} (d : α) : List α → Nat → α
  | [], _ => d
  | a :: _, 0 => a
  | _ :: r, n + 1 => nth d r n
/-! ### the head as checks: what the top left, looked at by the kernel -/
theorem DefK.funD {K : PySem.W.Frag} {d : DefK} (e : fnK K (d.at_ K) = d.val) (c : d.ok K = true) : ∃ fd, FunD K d.name d.qual d.params d.body d.scope (d.dfl K) (d.kwd K) (d.at_ K) fd := by
  unfold fnK DefK.val at e
  unfold DefK.ok at c
  split at c
  · rename_i oc od u sl q
    rw [q] at e
    have e' := Option.some.inj e
    obtain ⟨b1, b2, b3, b4, b5, b6, b7, b8, b9, b10, b11, b12, b13, b14, b15⟩ := u
    simp only [Prod.mk.injEq] at e'
    obtain ⟨r1, r2, r3, r4, r5, r6, r7, r8⟩ := e'
    subst r1 r2 r3 r4 r5 r6 r7 r8
    simp only [Bool.and_eq_true] at c
    obtain ⟨k0, k1, k2, k3⟩ := c
    exact ⟨_, ⟨oc, od, b8, b9, b10, b11, b12, b13, b14, sl, rfl, q, k1, He.dflB_ok k2, He.kwdB_ok k3⟩, k0⟩
  · cases c
theorem fun_of {K : PySem.W.Frag} {x q : Str} {st : Stmt} {f : Addr} {fd : FuncData} (F : FunD K x q (defArgs st) (defBody st) (defScope st) [] [] f fd) : Fun K x q st f fd := by
  obtain ⟨oc, od, dV, kV, doc, pm, an, cdv, ct, osl, rfl, lk, hcd, hD, hK⟩ := F.ex
  rcases hD with ⟨_, rfl⟩ | ⟨e, _⟩
  · exact ⟨⟨oc, od, kV, doc, pm, an, cdv, ct, osl, rfl, lk, hcd⟩, F.kp⟩
  · exact absurd rfl e
section
variable {chk : PySem.W.Frag → Bool} {fn : List DefK} {K : PySem.W.Frag}
theorem SaysK.chk_ (c : SaysK chk fn K) : chk K = true := (Bool.and_eq_true_iff.mp (congrArg (fun z : AlK => z.1) c)).1
theorem SaysK.def_ (c : SaysK chk fn K) (i : Nat) {d : DefK} (h : fn[i]? = some d := by rfl) : ∃ fd, FunD K d.name d.qual d.params d.body d.scope (d.dfl K) (d.kwd K) (d.at_ K) fd := by
  have c1 := (Bool.and_eq_true_iff.mp (congrArg (fun z : AlK => z.1) c)).2
  have e : fn.map (fun d => fnK K (d.at_ K)) = fn.map DefK.val := congrArg (fun z : AlK => z.2) c
  have e2 := congrArg (fun l : List He.FnW => l[i]?) e
  simp only [List.getElem?_map, h, Option.map_some] at e2
  exact DefK.funD (Option.some.inj e2) (List.all_eq_true.mp c1 d (List.mem_of_getElem? h))
end
theorem allB_at {l : List Bool} (h : allB l = true) (i : Nat) {b : Bool} (e : l[i]? = some b := by rfl) : b = true := List.all_eq_true.mp h b (List.mem_of_getElem? e)
/-! ### addresses -/
/-! ### checks -/
theorem bNs_some {K : PySem.W.Frag} {h : Heap} {mg : Str → Option Value} (X : K.In h) (G : h.Ns mainGlobals mg) {x : Str} {v : Value} (c : bNs K x (some v) = true) : mg x = some v := PySem.W.mg_of X G (of_decide_eq_true c)
theorem bNs_none {K : PySem.W.Frag} {h : Heap} {mg : Str → Option Value} (X : K.In h) (G : h.Ns mainGlobals mg) {x : Str} (c : bNs K x none = true) : mg x = none := PySem.W.mg_none_of X G (of_decide_eq_true c)
theorem bFind_ok {K : PySem.W.Frag} {C : Addr} {m : Str} {v : Option Value} (c : bFind K C m v = true) : PySem.W.findIn K (.ref C) m = some v := of_decide_eq_true c
theorem bSub_ok {K : PySem.W.Frag} {a b : Value} {r : Bool} (c : bSub K a b r = true) : PySem.W.subIn K a b = some r := of_decide_eq_true c
theorem bTyp_ok {K : PySem.W.Frag} {a b : Value} (c : bTyp K a b = true) : PySem.W.typeIn K a = some b := of_decide_eq_true c
theorem bKit_ok {K : PySem.W.Frag} {a b : Value} {r : Bool} (c : bKit K a b r = true) : PySem.W.kitOne K a b = some r := of_decide_eq_true c
theorem bExm_ok {K : PySem.W.Frag} {a b : Value} {r : Bool} (c : bExm K a b r = true) : PySem.W.exmOne K a b = some r := of_decide_eq_true c
theorem bSpec_ok {K : PySem.W.Frag} {a : Value} {m : Str} {v : Option Value} (c : bSpec K a m v = true) : PySem.W.specialIn K a m = some v := of_decide_eq_true c
theorem bCls_ok {K : PySem.W.Frag} {C : Addr} (c : bCls K C = true) : Cls K C := ⟨allB_at c 0, allB_at c 1, allB_at c 2, bFind_ok (allB_at c 3)⟩
theorem bOwn_ok {K : PySem.W.Frag} {C : Addr} (c : bOwn K C = true) : OwnC K C := by
  have o : bOc K C = true := allB_at c 1
  exact ⟨⟨bCls_ok (allB_at c 0), bFind_ok (allB_at o 0), bSpec_ok (allB_at o 1), of_decide_eq_true (allB_at o 2), of_decide_eq_true (allB_at o 3)⟩, allB_at c 2, bTyp_ok (allB_at c 3),
    own_subs (bSub_ok (allB_at c 4)) (bSub_ok (allB_at c 5)) (bSub_ok (allB_at c 6)) (bSub_ok (allB_at c 7)) (bSub_ok (allB_at c 8)) (bSub_ok (allB_at c 9)) (bSub_ok (allB_at c 10))⟩
theorem bExcC_ok {K : PySem.W.Frag} {C : Addr} (c : bExcC K C = true) : L2.ExcC K C := by
  have o : bOc K C = true := allB_at c 4
  exact ⟨bFind_ok (allB_at c 0), bFind_ok (allB_at c 1), bSub_ok (allB_at c 2), allB_at c 3, bFind_ok (allB_at o 0), bSpec_ok (allB_at o 1), of_decide_eq_true (allB_at o 2), of_decide_eq_true (allB_at o 3)⟩
theorem bVal_ok {r : Option PySem.W.CFound} {v : Value} (c : bVal r v = true) : r = some (.val v) := by
  unfold bVal at c
  split at c
  · rw [of_decide_eq_true c]
  · cases c
theorem bGet_ok {r : Option PySem.W.CFound} {g a o t : Value} (c : bGet r g a o t = true) : r = some (.get g a o t) := by
  unfold bGet at c
  split at c
  · have e := of_decide_eq_true c
    simp only [Prod.mk.injEq] at e
    obtain ⟨rfl, rfl, rfl, rfl⟩ := e
    rfl
  · cases c
theorem bRead_ok {K : PySem.W.Frag} {C : Addr} (c : bRead K C = true) : _root_.ClX.CRead K C (.type "type") := ⟨allB_at c 0, bSpec_ok (allB_at c 1)⟩
theorem bBase_ok {K : PySem.W.Frag} {C : Addr} (c : bBase K C = true) : BaseX K C := by
  have r : bRead K C = true := allB_at c 0
  exact ⟨allB_at r 0, bVal_ok (allB_at c 1), bSpec_ok (allB_at r 1)⟩
theorem bCm_ok {K : PySem.W.Frag} {C p g : Addr} {m : Str} (c : bCm K C m p g = true) : _root_.ClX.CMet K C (.type "type") m p g := by
  refine ⟨bGet_ok (allB_at c 0), ?_, allB_at c 2⟩
  have r : (match PySem.W.recIn K p "classmethod" with
    | some (.ref a :: _) => decide (a = g)
    | _ => false) = true := allB_at c 1
  split at r
  · rename_i a rest e
    rw [e, of_decide_eq_true r]
    exact ⟨rest, rfl⟩
  · cases r
theorem bMeth_ok {K : PySem.W.Frag} {C f : Addr} {m : Str} (c : bMeth K C m f = true) : Meth K C m f := ⟨bFind_ok (allB_at c 0), allB_at c 1, allB_at c 2⟩
theorem bMk_ok {K : PySem.W.Frag} {C f : Addr} (c : bMk K C f = true) : Mk K C f := ⟨allB_at c 0, bFind_ok (allB_at c 1), allB_at c 2, allB_at c 3⟩
theorem bCallO_ok {K : PySem.W.Frag} {C f : Addr} (c : bCallO K C f = true) : _root_.StX.CallO K C f := ⟨bFind_ok (allB_at c 0), allB_at c 1, allB_at c 2⟩
theorem bOexO_ok {C : Addr} {o : Option Obj} (c : bOexO C o = true) : ∃ nm q N bs bm sn sub ab col dd k0 k1 k2 k3 k5, o = some (excClassObj nm q C N bs bm true sn sub ab col dd k0 k1 k2 k3 k5 "ValueError.__new__") ∧ PySem.HandSPX.refsVE bm = true := by
  unfold bOexO at c
  split at c
  · rename_i t dd cd sl
    split at c
    · rename_i C' bm k0 k1 k2 k3 n k5 em es
      simp only [Bool.and_eq_true, decide_eq_true_eq, Bool.not_eq_true'] at c
      obtain ⟨rfl, rfl, rfl, hd, hx, hr⟩ := c
      obtain ⟨nm, bs, mro, ns, qn, hdct, sn, sub, ab, col, del⟩ := cd
      dsimp only at em hd hx
      subst em hd hx
      obtain ⟨ls⟩ := sl
      have es' : ls = [k0, k1, k2, k3, some (.builtin "ValueError.__new__"), k5] := es
      subst es'
      exact ⟨nm, qn, ns, bs, bm, sn, sub, ab, col, dd, k0, k1, k2, k3, k5, rfl, hr⟩
    · cases c
  · cases c
theorem bOex_ok {K : PySem.W.Frag} {C : Addr} (c : bOex K C = true) : OexC K C := ⟨bOexO_ok (allB_at c 0), bFind_ok (allB_at c 1), bSub_ok (allB_at c 2), bTyp_ok (allB_at c 3), allB_at c 4⟩
theorem bTup_ok {K : PySem.W.Frag} {a : Addr} {vs : List V} (c : bTup K a vs = true) : ∃ (o : Obj) (its : Array Value) (n : Nat), K.lookup a = some o ∧ o.cls = .type "tuple" ∧ o.dict = none ∧ o.data = .seq its n ∧ its.size ≤ sizeLine ∧ Vals vs its.toList := by
  unfold bTup at c
  split at c
  · rename_i t its n sl q
    simp only [Bool.and_eq_true, decide_eq_true_eq] at c
    obtain ⟨rfl, hz, hr⟩ := c
    exact ⟨_, its, n, q, rfl, rfl, rfl, hz, He.relAll_ok hr⟩
  · cases c
theorem bTopStr_ok {K : PySem.W.Frag} {h : Heap} {mg : Str → Option Value} (X : K.In h) (G : h.Ns mainGlobals mg) {x u : Str} (c : bTopStr K x u = true) : TopStr mg x u := by
  unfold bTopStr at c
  split at c
  · rename_i y t e
    rw [of_decide_eq_true c] at e
    exact ⟨t, PySem.W.mg_of X G e⟩
  · cases c
theorem bTopTup_ok {K : PySem.W.Frag} {h : Heap} {mg : Str → Option Value} (X : K.In h) (G : h.Ns mainGlobals mg) {x : Str} {us : List Str} (c : bTopTup K x us = true) : TopTup K mg x us := by
  obtain ⟨c1, c2⟩ := Bool.and_eq_true_iff.mp c
  obtain ⟨o, its, n, q⟩ := bTup_ok c2
  exact ⟨_, o, its, n, bNs_some X G c1, q⟩
mutual
theorem bPV_ok {K : PySem.W.Frag} {cl : Nat → Addr} : ∀ (y : PV) (u : Value), bPV K y u = true → ∃ v : V, RelV v u ∧ ∀ H, Rep K cl H v y
  | .non, u, c => by
    unfold bPV at c
    rw [of_decide_eq_true c]
    exact ⟨.non, rfl, fun _ => .non⟩
  | .bl b, u, c => by
    unfold bPV at c
    rw [of_decide_eq_true c]
    exact ⟨.bl b, rfl, fun _ => .bl b⟩
  | .int i, u, c => by
    unfold bPV at c
    split at c
    · rw [of_decide_eq_true c]
      exact ⟨.int i, ⟨_, rfl⟩, fun _ => .int i⟩
    · cases c
  | .str x, u, c => by
    unfold bPV at c
    split at c
    · simp only [Bool.and_eq_true, decide_eq_true_eq] at c
      rw [c.1]
      exact ⟨.str x, ⟨_, rfl⟩, fun _ => .str x c.2⟩
    · cases c
  | .tup ys, u, c => by
    unfold bPV at c
    split at c
    · split at c
      · rename_i a _o t its n sl q
        simp only [Bool.and_eq_true, decide_eq_true_eq] at c
        obtain ⟨rfl, hz, hr⟩ := c
        obtain ⟨vs, r, rl⟩ := bPVs_ok ys its.toList hr
        exact ⟨.ref a, rfl, fun H => rep_ktup q hz r rl H⟩
      · cases c
    · cases c
  | .lst _, u, c => by unfold bPV at c; cases c
  | .dct _, u, c => by unfold bPV at c; cases c
  | .obj _ _, u, c => by unfold bPV at c; cases c
  | .frl _, u, c => by unfold bPV at c; cases c
  | .glb _, u, c => by unfold bPV at c; cases c
  | .xo _ _ _ _, u, c => by unfold bPV at c; cases c
  | .raw _, u, c => by unfold bPV at c; cases c
theorem bPVs_ok {K : PySem.W.Frag} {cl : Nat → Addr} : ∀ (ys : List PV) (us : List Value), bPVs K ys us = true → ∃ vs : List V, Vals vs us ∧ ∀ H, RepL K cl H vs ys
  | [], [], _ => ⟨[], .nil, fun _ => .nil⟩
  | [], _ :: _, c => by unfold bPVs at c; cases c
  | _ :: _, [], c => by unfold bPVs at c; cases c
  | y :: ys, u :: us, c => by
    unfold bPVs at c
    obtain ⟨c1, c2⟩ := Bool.and_eq_true_iff.mp c
    obtain ⟨v, r, h⟩ := bPV_ok y u c1
    obtain ⟨vs, rs, hs⟩ := bPVs_ok ys us c2
    exact ⟨v :: vs, .cons r rs, fun H => .cons (h H) (hs H)⟩
end
theorem bTopPV_ok {K : PySem.W.Frag} {cl : Nat → Addr} {h : Heap} {mg : Str → Option Value} (X : K.In h) (G : h.Ns mainGlobals mg) {x : Str} {y : PV} (c : bTopPV K x y = true) : TopPV K cl mg x y := by
  unfold bTopPV at c
  split at c
  · rename_i u e
    obtain ⟨v, r, hr⟩ := bPV_ok (cl := cl) y u c
    exact ⟨v, u, PySem.W.mg_of X G e, r, hr⟩
  · cases c
/-! ### the end -/
theorem walk_endK {l : PySem.W.OpenLaw} {n k m : Nat} {q : Program} {loose : List Str} {XP : (Str → Option Value) → Heap → Prop} {d : DefRec} {x : Str} {f : List PV → Option RO} {chk : PySem.W.Frag → Bool} {fn : List DefK} (hn : l.most = some n) (hn2 : n ≤ sizeLine) (hdf : d.params.defaults = []) (hr : Room k callerA)
    (F : ∀ (w : World) (mg : Str → Option Value) (fa : Addr) (h : Heap) (K : PySem.W.Frag), K.In h → SaysK chk fn K → h.Ns mainGlobals mg → mg d.name = some (.ref fa) → ∃ fd : FuncData, (∀ (s : Shared) (u : Value), BindsTo s fd ⟨[u], []⟩ [(x, u)]) ∧
      ∀ base : Heap, K.In base → base.Ns mainGlobals mg → ∃ cl : Nat → Addr, FnG l.prog w K mg base (L2N.CX l.prog w) k fa fd [x] (spP K cl 1 f))
    (hf : ∀ ns : List Int, ns.length ≤ n → f [.frl ns] = some (.ret (.bl true))) :
    PySem.W.WalkO q loose XP (hookK m chk fn).says l.row.toRowW d [] (fun f vs => PySem.call f vs) := by
  refine Att.attach_call hn hdf fun w s0 s1 mg mb fa o pm cd doc a vs ns G Y ho hd hcd hmg hobj hints hlen hg => ?_
  obtain ⟨K, KX, c⟩ := Y
  obtain ⟨fd, hb, hF⟩ := F w mg fa _ K KX c G.T.g hmg
  refine law_callG (CX := L2N.CX l.prog w) (sp := spLaw K f) KX G.T.g G.T.b G.T.builtins G.T.nolimit hg hobj hints (Nat.le_trans hlen hn2) hr (fun base KB NB => ?_) hb (fun H hO hS => ⟨a, ns, rfl, hS, hf ns hlen, fun _ => rfl⟩) (fun H e s' z => ?_)
  · obtain ⟨cl, hG⟩ := hF base KB NB
    exact hG.imp fun vs H Q E => spLaw_of
  · obtain ⟨_, _, _, _, _, _, _, _, _, _, _, _, z⟩ := z
    exact z
end Kp
set_option Elab.async false
set_option linter.all false
set_option maxRecDepth 100000
set_option maxHeartbeats 4000000
namespace A07
open PySem PyProof.Rows L2 Kp
noncomputable section
abbrev N_BadReading___init__ : List Str := ["self", "number"]
theorem sc_BadReading___init__ : FnScope N_BadReading___init__ ["self", "number"] (defScope s_BadReading___init__) := ⟨rfl, rfl, rfl, by decide +kernel, rfl, by decide +kernel, by decide +kernel⟩
abbrev N_BadLine___init__ : List Str := ["self", "line", "word"]
theorem sc_BadLine___init__ : FnScope N_BadLine___init__ ["self", "line", "word"] (defScope s_BadLine___init__) := ⟨rfl, rfl, rfl, by decide +kernel, rfl, by decide +kernel, by decide +kernel⟩
abbrev N_BadWork___init__ : List Str := ["self", "number"]
theorem sc_BadWork___init__ : FnScope N_BadWork___init__ ["self", "number"] (defScope s_BadWork___init__) := ⟨rfl, rfl, rfl, by decide +kernel, rfl, by decide +kernel, by decide +kernel⟩
abbrev N_deep : List Str := ["thing", "part"]
theorem sc_deep : FnScope N_deep ["thing"] (defScope s_deep) := ⟨rfl, rfl, rfl, by decide +kernel, rfl, by decide +kernel, by decide +kernel⟩
abbrev N_is_word : List Str := ["thing", "letter"]
theorem sc_is_word : FnScope N_is_word ["thing"] (defScope s_is_word) := ⟨rfl, rfl, rfl, by decide +kernel, rfl, by decide +kernel, by decide +kernel⟩
abbrev N_Lines___init__ : List Str := ["self", "texts"]
theorem sc_Lines___init__ : FnScope N_Lines___init__ ["self", "texts"] (defScope s_Lines___init__) := ⟨rfl, rfl, rfl, by decide +kernel, rfl, by decide +kernel, by decide +kernel⟩
abbrev N_Lines_line_words : List Str := ["self"]
theorem sc_Lines_line_words : FnScope N_Lines_line_words ["self"] (defScope s_Lines_line_words) := ⟨rfl, rfl, rfl, by decide +kernel, rfl, by decide +kernel, by decide +kernel⟩
abbrev N_Lines_first_word : List Str := ["self"]
theorem sc_Lines_first_word : FnScope N_Lines_first_word ["self"] (defScope s_Lines_first_word) := ⟨rfl, rfl, rfl, by decide +kernel, rfl, by decide +kernel, by decide +kernel⟩
abbrev N_Lines_many_words : List Str := ["self"]
theorem sc_Lines_many_words : FnScope N_Lines_many_words ["self"] (defScope s_Lines_many_words) := ⟨rfl, rfl, rfl, by decide +kernel, rfl, by decide +kernel, by decide +kernel⟩
abbrev N_Lines_word_at : List Str := ["self", "k", "row"]
theorem sc_Lines_word_at : FnScope N_Lines_word_at ["self", "k"] (defScope s_Lines_word_at) := ⟨rfl, rfl, rfl, by decide +kernel, rfl, by decide +kernel, by decide +kernel⟩
abbrev N_Lines_fail_at : List Str := ["self", "k"]
theorem sc_Lines_fail_at : FnScope N_Lines_fail_at ["self", "k"] (defScope s_Lines_fail_at) := ⟨rfl, rfl, rfl, by decide +kernel, rfl, by decide +kernel, by decide +kernel⟩
abbrev N_Lines_want_word : List Str := ["self", "word"]
theorem sc_Lines_want_word : FnScope N_Lines_want_word ["self", "word"] (defScope s_Lines_want_word) := ⟨rfl, rfl, rfl, by decide +kernel, rfl, by decide +kernel, by decide +kernel⟩
abbrev N_Lines_close_at : List Str := ["self", "k"]
theorem sc_Lines_close_at : FnScope N_Lines_close_at ["self", "k"] (defScope s_Lines_close_at) := ⟨rfl, rfl, rfl, by decide +kernel, rfl, by decide +kernel, by decide +kernel⟩
abbrev N_no_more : List Str := ["lines"]
theorem sc_no_more : FnScope N_no_more ["lines"] (defScope s_no_more) := ⟨rfl, rfl, rfl, by decide +kernel, rfl, by decide +kernel, by decide +kernel⟩
abbrev N_write_reading : List Str := ["reading", "row", "word", "pick"]
theorem sc_write_reading : FnScope N_write_reading ["reading"] (defScope s_write_reading) := ⟨rfl, rfl, rfl, by decide +kernel, rfl, by decide +kernel, by decide +kernel⟩
abbrev N_write_work : List Str := ["chapters", "chapter"]
theorem sc_write_work : FnScope N_write_work ["chapters"] (defScope s_write_work) := ⟨rfl, rfl, rfl, by decide +kernel, rfl, by decide +kernel, by decide +kernel⟩
abbrev N_pick_pair_at : List Str := ["lines", "at", "word", "colon", "pick"]
theorem sc_pick_pair_at : FnScope N_pick_pair_at ["lines", "at"] (defScope s_pick_pair_at) := ⟨rfl, rfl, rfl, by decide +kernel, rfl, by decide +kernel, by decide +kernel⟩
abbrev N_reading_row : List Str := ["lines", "many", "row", "at"]
theorem sc_reading_row : FnScope N_reading_row ["lines"] (defScope s_reading_row) := ⟨rfl, rfl, rfl, by decide +kernel, rfl, by decide +kernel, by decide +kernel⟩
abbrev N_read_reading : List Str := ["line"]
theorem sc_read_reading : FnScope N_read_reading ["line"] (defScope s_read_reading) := ⟨rfl, rfl, rfl, by decide +kernel, rfl, by decide +kernel, by decide +kernel⟩
abbrev N_read_work : List Str := ["lines", "texts", "rows"]
theorem sc_read_work : FnScope N_read_work ["lines"] (defScope s_read_work) := ⟨rfl, rfl, rfl, by decide +kernel, rfl, by decide +kernel, by decide +kernel⟩
abbrev N__law_source : List Str := ["script", "salt"]
theorem sc__law_source : FnScope N__law_source ["script", "salt"] (defScope s__law_source) := ⟨rfl, rfl, rfl, by decide +kernel, rfl, by decide +kernel, by decide +kernel⟩
abbrev N__law_next : List Str := ["source", "script", "k", "cell"]
theorem sc__law_next : FnScope N__law_next ["source"] (defScope s__law_next) := ⟨rfl, rfl, rfl, by decide +kernel, rfl, by decide +kernel, by decide +kernel⟩
abbrev N__law_pick : List Str := ["source", "many", "told", "low", "high", "last"]
theorem sc__law_pick : FnScope N__law_pick ["source", "many"] (defScope s__law_pick) := ⟨rfl, rfl, rfl, by decide +kernel, rfl, by decide +kernel, by decide +kernel⟩
abbrev N__law_one_in : List Str := ["source", "many"]
theorem sc__law_one_in : FnScope N__law_one_in ["source", "many"] (defScope s__law_one_in) := ⟨rfl, rfl, rfl, by decide +kernel, rfl, by decide +kernel, by decide +kernel⟩
abbrev N__law_one_of : List Str := ["source", "row"]
theorem sc__law_one_of : FnScope N__law_one_of ["source", "row"] (defScope s__law_one_of) := ⟨rfl, rfl, rfl, by decide +kernel, rfl, by decide +kernel, by decide +kernel⟩
abbrev N__law_letter : List Str := ["k"]
theorem sc__law_letter : FnScope N__law_letter ["k"] (defScope s__law_letter) := ⟨rfl, rfl, rfl, by decide +kernel, rfl, by decide +kernel, by decide +kernel⟩
abbrev N__law_word : List Str := ["source", "longest", "size", "k"]
theorem sc__law_word : FnScope N__law_word ["source", "longest"] (defScope s__law_word) := ⟨rfl, rfl, rfl, by decide +kernel, rfl, by decide +kernel, by decide +kernel⟩
abbrev N__law_words : List Str := ["source", "many", "longest", "spent", "words", "k", "word", "many_more", "row", "j", "one"]
theorem sc__law_words : FnScope N__law_words ["source", "many", "longest", "spent"] (defScope s__law_words) := ⟨rfl, rfl, rfl, by decide +kernel, rfl, by decide +kernel, by decide +kernel⟩
abbrev N__law_lists : List Str := ["thing", "part"]
theorem sc__law_lists : FnScope N__law_lists ["thing"] (defScope s__law_lists) := ⟨rfl, rfl, rfl, by decide +kernel, rfl, by decide +kernel, by decide +kernel⟩
abbrev N__law_same : List Str := ["actual", "due", "k"]
theorem sc__law_same : FnScope N__law_same ["actual", "due"] (defScope s__law_same) := ⟨rfl, rfl, rfl, by decide +kernel, rfl, by decide +kernel, by decide +kernel⟩
abbrev N__law_is_word : List Str := ["text", "letter"]
theorem sc__law_is_word : FnScope N__law_is_word ["text"] (defScope s__law_is_word) := ⟨rfl, rfl, rfl, by decide +kernel, rfl, by decide +kernel, by decide +kernel⟩
abbrev N__law_reading_line : List Str := ["reading", "pair"]
theorem sc__law_reading_line : FnScope N__law_reading_line ["reading"] (defScope s__law_reading_line) := ⟨rfl, rfl, rfl, by decide +kernel, rfl, by decide +kernel, by decide +kernel⟩
abbrev N__law_pair_of : List Str := ["text", "parts"]
theorem sc__law_pair_of : FnScope N__law_pair_of ["text"] (defScope s__law_pair_of) := ⟨rfl, rfl, rfl, by decide +kernel, rfl, by decide +kernel, by decide +kernel⟩
abbrev N__law_read : List Str := ["lines", "rows", "k", "row", "pairs", "word"]
theorem sc__law_read : FnScope N__law_read ["lines"] (defScope s__law_read) := ⟨rfl, rfl, rfl, by decide +kernel, rfl, by decide +kernel, by decide +kernel⟩
abbrev N__law_error : List Str := ["raised"]
theorem sc__law_error : FnScope N__law_error ["raised"] (defScope s__law_error) := ⟨rfl, rfl, rfl, by decide +kernel, rfl, by decide +kernel, by decide +kernel⟩
abbrev N__law_asked_work : List Str := ["lines", "due", "told", "raised"]
theorem sc__law_asked_work : FnScope N__law_asked_work ["lines", "due"] (defScope s__law_asked_work) := ⟨rfl, rfl, rfl, by decide +kernel, rfl, by decide +kernel, by decide +kernel⟩
abbrev N__law_asked_line : List Str := ["line", "due", "told", "raised"]
theorem sc__law_asked_line : FnScope N__law_asked_line ["line"] (defScope s__law_asked_line) := ⟨rfl, rfl, rfl, by decide +kernel, rfl, by decide +kernel, by decide +kernel⟩
abbrev N__law_wide_reading : List Str := ["source", "pool", "many", "k"]
theorem sc__law_wide_reading : FnScope N__law_wide_reading ["source", "pool"] (defScope s__law_wide_reading) := ⟨rfl, rfl, rfl, by decide +kernel, rfl, by decide +kernel, by decide +kernel⟩
abbrev N__law_bent_line : List Str := ["source", "line", "row", "k", "odd", "word", "way"]
theorem sc__law_bent_line : FnScope N__law_bent_line ["source", "line"] (defScope s__law_bent_line) := ⟨rfl, rfl, rfl, by decide +kernel, rfl, by decide +kernel, by decide +kernel⟩
abbrev N__law_bent_lines : List Str := ["source", "lines", "at", "way", "odd"]
theorem sc__law_bent_lines : FnScope N__law_bent_lines ["source", "lines"] (defScope s__law_bent_lines) := ⟨rfl, rfl, rfl, by decide +kernel, rfl, by decide +kernel, by decide +kernel⟩
abbrev N__law_there_and_back : List Str := ["chapters", "form", "lines", "passed_in", "k", "chapter"]
theorem sc__law_there_and_back : FnScope N__law_there_and_back ["chapters", "form"] (defScope s__law_there_and_back) := ⟨rfl, rfl, rfl, by decide +kernel, rfl, by decide +kernel, by decide +kernel⟩
abbrev N__law_round : List Str := ["source", "form", "pool", "many", "chapters", "good", "j", "lines", "k", "asked", "due", "chapter"]
theorem sc__law_round : FnScope N__law_round ["source", "form"] (defScope s__law_round) := ⟨rfl, rfl, rfl, by decide +kernel, rfl, by decide +kernel, by decide +kernel⟩
abbrev N_law : List Str := ["script", "source"]
theorem sc_law : FnScope N_law ["script"] (defScope s_law) := ⟨rfl, rfl, rfl, by decide +kernel, rfl, by decide +kernel, by decide +kernel⟩
def sub_BadLine (c : Nat) : Bool := [5].contains c
def sub_ValueError (c : Nat) : Bool := [5].contains c
def sub_BadWork (c : Nat) : Bool := [].contains c
def sub_BadReading (c : Nat) : Bool := [].contains c
def sub_AcrossError (c : Nat) : Bool := [5].contains c
structure Txt (K : PySem.W.Frag) (mg : Str → Option Value) (cl : Nat → Addr) (fa : Nat → Addr) (fd : Nat → FuncData) : Prop where
  F_BadReading___init__ : Fun K "__init__" "BadReading.__init__" s_BadReading___init__ (fa 1) (fd 1)
  k_BadReading___init__ : PySem.W.keepIn K (.ref (fa 1)) = true
  b_BadReading___init__ : Binds K (fd 1) ["self", "number"] []
  F_BadLine___init__ : Fun K "__init__" "BadLine.__init__" s_BadLine___init__ (fa 2) (fd 2)
  k_BadLine___init__ : PySem.W.keepIn K (.ref (fa 2)) = true
  b_BadLine___init__ : Binds K (fd 2) ["self", "line", "word"] []
  F_BadWork___init__ : Fun K "__init__" "BadWork.__init__" s_BadWork___init__ (fa 3) (fd 3)
  k_BadWork___init__ : PySem.W.keepIn K (.ref (fa 3)) = true
  b_BadWork___init__ : Binds K (fd 3) ["self", "number"] []
  F_deep : Fun K "deep" "deep" s_deep (fa 4) (fd 4)
  g_deep : mg "deep" = some (.ref (fa 4))
  k_deep : PySem.W.keepIn K (.ref (fa 4)) = true
  b_deep : Binds K (fd 4) ["thing"] []
  F_is_word : Fun K "is_word" "is_word" s_is_word (fa 5) (fd 5)
  g_is_word : mg "is_word" = some (.ref (fa 5))
  k_is_word : PySem.W.keepIn K (.ref (fa 5)) = true
  b_is_word : Binds K (fd 5) ["thing"] []
  F_Lines___init__ : Fun K "__init__" "Lines.__init__" s_Lines___init__ (fa 6) (fd 6)
  k_Lines___init__ : PySem.W.keepIn K (.ref (fa 6)) = true
  b_Lines___init__ : Binds K (fd 6) ["self", "texts"] []
  F_Lines_line_words : Fun K "line_words" "Lines.line_words" s_Lines_line_words (fa 8) (fd 8)
  k_Lines_line_words : PySem.W.keepIn K (.ref (fa 8)) = true
  b_Lines_line_words : Binds K (fd 8) ["self"] []
  F_Lines_first_word : Fun K "first_word" "Lines.first_word" s_Lines_first_word (fa 9) (fd 9)
  k_Lines_first_word : PySem.W.keepIn K (.ref (fa 9)) = true
  b_Lines_first_word : Binds K (fd 9) ["self"] []
  F_Lines_many_words : Fun K "many_words" "Lines.many_words" s_Lines_many_words (fa 10) (fd 10)
  k_Lines_many_words : PySem.W.keepIn K (.ref (fa 10)) = true
  b_Lines_many_words : Binds K (fd 10) ["self"] []
  F_Lines_word_at : Fun K "word_at" "Lines.word_at" s_Lines_word_at (fa 11) (fd 11)
  k_Lines_word_at : PySem.W.keepIn K (.ref (fa 11)) = true
  b_Lines_word_at : Binds K (fd 11) ["self", "k"] []
  F_Lines_fail_at : Fun K "fail_at" "Lines.fail_at" s_Lines_fail_at (fa 13) (fd 13)
  k_Lines_fail_at : PySem.W.keepIn K (.ref (fa 13)) = true
  b_Lines_fail_at : Binds K (fd 13) ["self", "k"] []
  F_Lines_want_word : Fun K "want_word" "Lines.want_word" s_Lines_want_word (fa 17) (fd 17)
  k_Lines_want_word : PySem.W.keepIn K (.ref (fa 17)) = true
  b_Lines_want_word : Binds K (fd 17) ["self", "word"] []
  F_Lines_close_at : Fun K "close_at" "Lines.close_at" s_Lines_close_at (fa 18) (fd 18)
  k_Lines_close_at : PySem.W.keepIn K (.ref (fa 18)) = true
  b_Lines_close_at : Binds K (fd 18) ["self", "k"] []
  F_no_more : Fun K "no_more" "no_more" s_no_more (fa 19) (fd 19)
  g_no_more : mg "no_more" = some (.ref (fa 19))
  k_no_more : PySem.W.keepIn K (.ref (fa 19)) = true
  b_no_more : Binds K (fd 19) ["lines"] []
  F_write_reading : Fun K "write_reading" "write_reading" s_write_reading (fa 20) (fd 20)
  g_write_reading : mg "write_reading" = some (.ref (fa 20))
  k_write_reading : PySem.W.keepIn K (.ref (fa 20)) = true
  b_write_reading : Binds K (fd 20) ["reading"] []
  F_write_work : Fun K "write_work" "write_work" s_write_work (fa 21) (fd 21)
  g_write_work : mg "write_work" = some (.ref (fa 21))
  k_write_work : PySem.W.keepIn K (.ref (fa 21)) = true
  b_write_work : Binds K (fd 21) ["chapters"] []
  F_pick_pair_at : Fun K "pick_pair_at" "pick_pair_at" s_pick_pair_at (fa 22) (fd 22)
  g_pick_pair_at : mg "pick_pair_at" = some (.ref (fa 22))
  k_pick_pair_at : PySem.W.keepIn K (.ref (fa 22)) = true
  b_pick_pair_at : Binds K (fd 22) ["lines", "at"] []
  F_reading_row : Fun K "reading_row" "reading_row" s_reading_row (fa 23) (fd 23)
  g_reading_row : mg "reading_row" = some (.ref (fa 23))
  k_reading_row : PySem.W.keepIn K (.ref (fa 23)) = true
  b_reading_row : Binds K (fd 23) ["lines"] []
  F_read_reading : Fun K "read_reading" "read_reading" s_read_reading (fa 24) (fd 24)
  g_read_reading : mg "read_reading" = some (.ref (fa 24))
  k_read_reading : PySem.W.keepIn K (.ref (fa 24)) = true
  b_read_reading : Binds K (fd 24) ["line"] []
  F_read_work : Fun K "read_work" "read_work" s_read_work (fa 25) (fd 25)
  g_read_work : mg "read_work" = some (.ref (fa 25))
  k_read_work : PySem.W.keepIn K (.ref (fa 25)) = true
  b_read_work : Binds K (fd 25) ["lines"] []
  F__law_source : Fun K "_law_source" "_law_source" s__law_source (fa 26) (fd 26)
  g__law_source : mg "_law_source" = some (.ref (fa 26))
  k__law_source : PySem.W.keepIn K (.ref (fa 26)) = true
  b__law_source : Binds K (fd 26) ["script", "salt"] []
  F__law_next : Fun K "_law_next" "_law_next" s__law_next (fa 27) (fd 27)
  g__law_next : mg "_law_next" = some (.ref (fa 27))
  k__law_next : PySem.W.keepIn K (.ref (fa 27)) = true
  b__law_next : Binds K (fd 27) ["source"] []
  F__law_pick : Fun K "_law_pick" "_law_pick" s__law_pick (fa 28) (fd 28)
  g__law_pick : mg "_law_pick" = some (.ref (fa 28))
  k__law_pick : PySem.W.keepIn K (.ref (fa 28)) = true
  b__law_pick : Binds K (fd 28) ["source", "many"] []
  F__law_one_in : Fun K "_law_one_in" "_law_one_in" s__law_one_in (fa 29) (fd 29)
  g__law_one_in : mg "_law_one_in" = some (.ref (fa 29))
  k__law_one_in : PySem.W.keepIn K (.ref (fa 29)) = true
  b__law_one_in : Binds K (fd 29) ["source", "many"] []
  F__law_one_of : Fun K "_law_one_of" "_law_one_of" s__law_one_of (fa 30) (fd 30)
  g__law_one_of : mg "_law_one_of" = some (.ref (fa 30))
  k__law_one_of : PySem.W.keepIn K (.ref (fa 30)) = true
  b__law_one_of : Binds K (fd 30) ["source", "row"] []
  F__law_letter : Fun K "_law_letter" "_law_letter" s__law_letter (fa 31) (fd 31)
  g__law_letter : mg "_law_letter" = some (.ref (fa 31))
  k__law_letter : PySem.W.keepIn K (.ref (fa 31)) = true
  b__law_letter : Binds K (fd 31) ["k"] []
  F__law_word : Fun K "_law_word" "_law_word" s__law_word (fa 32) (fd 32)
  g__law_word : mg "_law_word" = some (.ref (fa 32))
  k__law_word : PySem.W.keepIn K (.ref (fa 32)) = true
  b__law_word : Binds K (fd 32) ["source", "longest"] []
  F__law_words : Fun K "_law_words" "_law_words" s__law_words (fa 33) (fd 33)
  g__law_words : mg "_law_words" = some (.ref (fa 33))
  k__law_words : PySem.W.keepIn K (.ref (fa 33)) = true
  b__law_words : Binds K (fd 33) ["source", "many", "longest", "spent"] []
  F__law_lists : Fun K "_law_lists" "_law_lists" s__law_lists (fa 34) (fd 34)
  g__law_lists : mg "_law_lists" = some (.ref (fa 34))
  k__law_lists : PySem.W.keepIn K (.ref (fa 34)) = true
  b__law_lists : Binds K (fd 34) ["thing"] []
  F__law_same : Fun K "_law_same" "_law_same" s__law_same (fa 35) (fd 35)
  g__law_same : mg "_law_same" = some (.ref (fa 35))
  k__law_same : PySem.W.keepIn K (.ref (fa 35)) = true
  b__law_same : Binds K (fd 35) ["actual", "due"] []
  F__law_is_word : Fun K "_law_is_word" "_law_is_word" s__law_is_word (fa 36) (fd 36)
  g__law_is_word : mg "_law_is_word" = some (.ref (fa 36))
  k__law_is_word : PySem.W.keepIn K (.ref (fa 36)) = true
  b__law_is_word : Binds K (fd 36) ["text"] []
  F__law_reading_line : Fun K "_law_reading_line" "_law_reading_line" s__law_reading_line (fa 37) (fd 37)
  g__law_reading_line : mg "_law_reading_line" = some (.ref (fa 37))
  k__law_reading_line : PySem.W.keepIn K (.ref (fa 37)) = true
  b__law_reading_line : Binds K (fd 37) ["reading"] []
  F__law_pair_of : Fun K "_law_pair_of" "_law_pair_of" s__law_pair_of (fa 38) (fd 38)
  g__law_pair_of : mg "_law_pair_of" = some (.ref (fa 38))
  k__law_pair_of : PySem.W.keepIn K (.ref (fa 38)) = true
  b__law_pair_of : Binds K (fd 38) ["text"] []
  F__law_read : Fun K "_law_read" "_law_read" s__law_read (fa 39) (fd 39)
  g__law_read : mg "_law_read" = some (.ref (fa 39))
  k__law_read : PySem.W.keepIn K (.ref (fa 39)) = true
  b__law_read : Binds K (fd 39) ["lines"] []
  F__law_error : Fun K "_law_error" "_law_error" s__law_error (fa 40) (fd 40)
  g__law_error : mg "_law_error" = some (.ref (fa 40))
  k__law_error : PySem.W.keepIn K (.ref (fa 40)) = true
  b__law_error : Binds K (fd 40) ["raised"] []
  F__law_asked_work : Fun K "_law_asked_work" "_law_asked_work" s__law_asked_work (fa 41) (fd 41)
  g__law_asked_work : mg "_law_asked_work" = some (.ref (fa 41))
  k__law_asked_work : PySem.W.keepIn K (.ref (fa 41)) = true
  b__law_asked_work : Binds K (fd 41) ["lines", "due"] []
  F__law_asked_line : Fun K "_law_asked_line" "_law_asked_line" s__law_asked_line (fa 42) (fd 42)
  g__law_asked_line : mg "_law_asked_line" = some (.ref (fa 42))
  k__law_asked_line : PySem.W.keepIn K (.ref (fa 42)) = true
  b__law_asked_line : Binds K (fd 42) ["line"] []
  F__law_wide_reading : Fun K "_law_wide_reading" "_law_wide_reading" s__law_wide_reading (fa 43) (fd 43)
  g__law_wide_reading : mg "_law_wide_reading" = some (.ref (fa 43))
  k__law_wide_reading : PySem.W.keepIn K (.ref (fa 43)) = true
  b__law_wide_reading : Binds K (fd 43) ["source", "pool"] []
  F__law_bent_line : Fun K "_law_bent_line" "_law_bent_line" s__law_bent_line (fa 44) (fd 44)
  g__law_bent_line : mg "_law_bent_line" = some (.ref (fa 44))
  k__law_bent_line : PySem.W.keepIn K (.ref (fa 44)) = true
  b__law_bent_line : Binds K (fd 44) ["source", "line"] []
  F__law_bent_lines : Fun K "_law_bent_lines" "_law_bent_lines" s__law_bent_lines (fa 45) (fd 45)
  g__law_bent_lines : mg "_law_bent_lines" = some (.ref (fa 45))
  k__law_bent_lines : PySem.W.keepIn K (.ref (fa 45)) = true
  b__law_bent_lines : Binds K (fd 45) ["source", "lines"] []
  F__law_there_and_back : Fun K "_law_there_and_back" "_law_there_and_back" s__law_there_and_back (fa 46) (fd 46)
  g__law_there_and_back : mg "_law_there_and_back" = some (.ref (fa 46))
  k__law_there_and_back : PySem.W.keepIn K (.ref (fa 46)) = true
  b__law_there_and_back : Binds K (fd 46) ["chapters", "form"] []
  F__law_round : Fun K "_law_round" "_law_round" s__law_round (fa 47) (fd 47)
  g__law_round : mg "_law_round" = some (.ref (fa 47))
  k__law_round : PySem.W.keepIn K (.ref (fa 47)) = true
  b__law_round : Binds K (fd 47) ["source", "form"] []
  F_law : Fun K "law" "law" s_law (fa 48) (fd 48)
  g_law : mg "law" = some (.ref (fa 48))
  k_law : PySem.W.keepIn K (.ref (fa 48)) = true
  b_law : Binds K (fd 48) ["script"] []
  gs_PICKS_TOLD : TopTup K mg "PICKS_TOLD" ["1", "2"]
  xc5 : L2.ExcC K (cl 5)
  kt5_BadLine : PySem.W.kitOne K (.ref (cl 5)) (.ref (cl 5)) = some true
  kt5_ValueError : PySem.W.kitOne K (.ref (cl 5)) (.type "ValueError") = some true
  kt5_BadWork : PySem.W.kitOne K (.ref (cl 5)) (.ref (cl 13)) = some false
  kt5_BadReading : PySem.W.kitOne K (.ref (cl 5)) (.ref (cl 12)) = some false
  kt5_AcrossError : PySem.W.kitOne K (.ref (cl 5)) (.ref (cl 0)) = some true
  xm5_AcrossError : PySem.W.exmOne K (.ref (cl 5)) (.ref (cl 0)) = some true
  z_isinstance : mg "isinstance" = none
  z_tuple : mg "tuple" = none
  z_list : mg "list" = none
  z_str : mg "str" = none
  z_len : mg "len" = none
  z_int : mg "int" = none
  z_range : mg "range" = none
  z_sum : mg "sum" = none
  z_abs : mg "abs" = none
  z_bool : mg "bool" = none
  z_all : mg "all" = none
  z_ValueError : mg "ValueError" = none
  g_AcrossError : mg "AcrossError" = some (.ref (cl 0))
  bx0 : BaseX K (cl 0)
  g_BadReading : mg "BadReading" = some (.ref (cl 12))
  x12 : OexC K (cl 12)
  i12 : PySem.W.findIn K (.ref (cl 12)) "__init__" = some (some (.ref (fa 1)))
  t12 : PySem.W.typeIn K (.ref (fa 1)) = some (.type "function")
  xn12_number : PySem.W.findIn K (.ref (cl 12)) "number" = some none
  g_BadLine : mg "BadLine" = some (.ref (cl 5))
  x5 : OexC K (cl 5)
  i5 : PySem.W.findIn K (.ref (cl 5)) "__init__" = some (some (.ref (fa 2)))
  t5 : PySem.W.typeIn K (.ref (fa 2)) = some (.type "function")
  xn5_line : PySem.W.findIn K (.ref (cl 5)) "line" = some none
  xn5_word : PySem.W.findIn K (.ref (cl 5)) "word" = some none
  g_BadWork : mg "BadWork" = some (.ref (cl 13))
  x13 : OexC K (cl 13)
  i13 : PySem.W.findIn K (.ref (cl 13)) "__init__" = some (some (.ref (fa 3)))
  t13 : PySem.W.typeIn K (.ref (fa 3)) = some (.type "function")
  xn13_number : PySem.W.findIn K (.ref (cl 13)) "number" = some none
  g_Lines : mg "Lines" = some (.ref (cl 11))
  c11 : Cls K (cl 11)
  ow11 : OwnC K (cl 11)
  n11_texts : NoAttr K (cl 11) "texts"
  n11_place : NoAttr K (cl 11) "place"
  m11 : Mk K (cl 11) (fa 6)
  mm11_line_words : Meth K (cl 11) "line_words" (fa 8)
  mm11_first_word : Meth K (cl 11) "first_word" (fa 9)
  mm11_many_words : Meth K (cl 11) "many_words" (fa 10)
  mm11_word_at : Meth K (cl 11) "word_at" (fa 11)
  mm11_fail_at : Meth K (cl 11) "fail_at" (fa 13)
  mm11_want_word : Meth K (cl 11) "want_word" (fa 17)
  mm11_close_at : Meth K (cl 11) "close_at" (fa 18)
section
variable {P : Program} {w : World} {K : PySem.W.Frag} {mg : Str → Option Value} {base : Heap} {cl fa : Nat → Addr} {fd : Nat → FuncData}
theorem ok_BadReading___init__ (T : Txt K mg cl fa fd) : FnOk P w K mg base (L2N.CX P w) 1 (fa 1) (fd 1) ["self", "number"] (spX (cl 12) 2 [("number", 1)]) :=
  fnX (k := 0) (p0 := ("number", 1)) (fl := []) (ta := tCons (tC (.str "no reading in this tongue")) tNil) T.F_BadReading___init__ sc_BadReading___init__ T.x12 (by
    intro p hp
    simp only [List.mem_cons, List.not_mem_nil, or_false] at hp
    subst hp
    exact ⟨by decide, T.xn12_number⟩) (by decide)
    (fun cdv A outer s H E hr => by exact (pss_cons (ps_expr (pe_binit T.bx0 rfl T.g_AcrossError (pa_cons (pv 0) (pa_cons pe_str pa_nil)))) (pss_one (ps_ost (pv 0) (pv 1))))) (fun _ _ _ h => h _ (by decide))
theorem ok_BadLine___init__ (T : Txt K mg cl fa fd) : FnOk P w K mg base (L2N.CX P w) 1 (fa 2) (fd 2) ["self", "line", "word"] (spX (cl 5) 3 [("line", 1), ("word", 2)]) :=
  fnX (k := 0) (p0 := ("line", 1)) (fl := [("word", 2)]) (ta := tCons (tC (.str "this word cannot stand here")) tNil) T.F_BadLine___init__ sc_BadLine___init__ T.x5 (by
    intro p hp
    simp only [List.mem_cons, List.not_mem_nil, or_false] at hp
    rcases hp with rfl | rfl
    · exact ⟨by decide, T.xn5_line⟩
    · exact ⟨by decide, T.xn5_word⟩
    ) (by decide)
    (fun cdv A outer s H E hr => by exact (pss_cons (ps_expr (pe_binit T.bx0 rfl T.g_AcrossError (pa_cons (pv 0) (pa_cons pe_str pa_nil)))) (pss_cons (ps_ost (pv 0) (pv 1)) (pss_one (ps_ost (pv 0) (pv 2)))))) (fun _ _ _ h => h _ (by decide))
theorem ok_BadWork___init__ (T : Txt K mg cl fa fd) : FnOk P w K mg base (L2N.CX P w) 1 (fa 3) (fd 3) ["self", "number"] (spX (cl 13) 2 [("number", 1)]) :=
  fnX (k := 0) (p0 := ("number", 1)) (fl := []) (ta := tCons (tC (.str "no work of chapters")) tNil) T.F_BadWork___init__ sc_BadWork___init__ T.x13 (by
    intro p hp
    simp only [List.mem_cons, List.not_mem_nil, or_false] at hp
    subst hp
    exact ⟨by decide, T.xn13_number⟩) (by decide)
    (fun cdv A outer s H E hr => by exact (pss_cons (ps_expr (pe_binit T.bx0 rfl T.g_AcrossError (pa_cons (pv 0) (pa_cons pe_str pa_nil)))) (pss_one (ps_ost (pv 0) (pv 1))))) (fun _ _ _ h => h _ (by decide))
def m_deep (rec : List PV → Option RO) : M Fl := mSeq (mIf (mTru (mIsa (ansAny [ansT noOc "list", ansT noOc "tuple"]) (mVar 0))) (mRet (mCB pTuple [mLc [1] (mIterA (mVar 0)) (gN 1) mYes (mCall rec [mVar 1])])) (mNx)) (mRet (mVar 0))
def fd_deep : Nat → List PV → Option RO
  | 0 => fun _ => none
  | d + 1 => runP N_deep.length (m_deep (fd_deep d))
def f_deep : List PV → Option RO := fd_deep 8
theorem okd_deep (T : Txt K mg cl fa fd) : ∀ d, FnOk P w K mg base (L2N.CX P w) (0 + d) (fa 4) (fd 4) ["thing"] (spP K cl 1 (fd_deep d))
  | 0 => fn_none
  | d + 1 => have ih := okd_deep T d
    fnP (k := 0 + d) (m := m_deep (fd_deep d)) T.F_deep sc_deep (fun cdv A outer s H E hr => by
    have hu := hu64 hr
    have tk : L2N.Takes (cxOf (L2N.CX P w) P w K mg base N_deep "deep" (defScope s_deep) (fa 4) cdv A outer s H E) (fun c d _ H' => E c d H') := L2N.takes_of rfl rfl rfl rfl
    exact (sm_cons (sm_if (tm_tru (em_isaT (.cons (.ty _) (isa_T0) (.cons (.ty _) (isa_T0) (.nil))) T.z_isinstance (em_v 0) (pa_cons (pe_bltn (x := "list") (by rfl) T.z_list (v := .ty "list") (by rfl) rfl) (pa_cons (pe_bltn (x := "tuple") (by rfl) T.z_tuple (v := .ty "tuple") (by rfl) rfl) (pa_nil))))) (sm_one (sm_ret (em_ct cr_tuple cs_tuple T.z_tuple (am_cons (LcM.em (LcM.mk (own := [("part", 1)]) (im_any (em_v 0)) (blkOk_by (own := [("part", 1)]) (N := N_deep) (sc := defScope s_deep) (by decide +kernel)) (blk_tg (fun _ _ _ _ _ => pg_name (i := 1) sc_deep.nd rfl (by first | exact Or.inl rfl | exact Or.inr rfl)) (does_gN) (gin_N (by decide))) (blk_ts fun _ _ _ _ _ => ts_nil) (blk_em fun _ _ _ _ _ => em_call takes_W0 (ih) (hr.mono (by first | decide | omega)) T.g_deep T.k_deep T.b_deep (am_cons (em_v 1) (am_nil)))) rfl sc_deep.nd) (am_nil))))) (sm_nil))
      (sm_one (sm_ret (em_v 0)))))
theorem ok_deep (T : Txt K mg cl fa fd) : FnOk P w K mg base (L2N.CX P w) 8 (fa 4) (fd 4) ["thing"] (spP K cl 1 f_deep) := okd_deep T 8
def m_is_word : M Fl := mSeq (mIf (mOr (mNot (mTru (mIsa (ansT noOc "str") (mVar 0)))) (mNot (mTest (mChain pLeI pLeI (mK (.int 1)) (mCBV pLen 0) (mK (.int 8)))))) (mRet (mK (.bl false))) (mNx)) (mSeq (mFor (mIterA (mVar 0)) (gN 1) (mIf (mNot (mTest (mChain pLeI pLeI (mK (.str "a")) (mVar 1) (mK (.str "z"))))) (mRet (mK (.bl false))) (mNx))) (mRet (mK (.bl true))))
def f_is_word : List PV → Option RO := runP N_is_word.length m_is_word
theorem ok_is_word (T : Txt K mg cl fa fd) : FnOk P w K mg base (L2N.CX P w) 1 (fa 5) (fd 5) ["thing"] (spP K cl 1 f_is_word) :=
  fnP (k := 0) (m := m_is_word) T.F_is_word sc_is_word (fun cdv A outer s H E hr => by
    have hu := hu64 hr
    have tk : L2N.Takes (cxOf (L2N.CX P w) P w K mg base N_is_word "is_word" (defScope s_is_word) (fa 5) cdv A outer s H E) (fun c d _ H' => E c d H') := L2N.takes_of rfl rfl rfl rfl
    exact (sm_cons (sm_if (tm_w (wm_or (tm_not (tm_tru (em_isa (isa_T0) (.ty _) T.z_isinstance (em_v 0) (pe_bltn (x := "str") (by rfl) T.z_str (v := .ty "str") (by rfl) rfl)))) (wm_or1 (tm_not (tm_chain br_le br_le (em_int) (em_cbV cr_lenA cs_len T.z_len (pv 0)) (em_int)))))) (sm_one (sm_ret (em_bl))) (sm_nil))
      (sm_cons (sm_for (passes_of rfl) rfl (im_any (em_v 0)) (gm_of (pg_name (i := 1) sc_is_word.nd rfl (by first | exact Or.inl rfl | exact Or.inr rfl)) (does_gN)) (sm_one (sm_if (tm_not (tm_chain br_le br_le (em_str) (em_v 1) (em_str))) (sm_one (sm_ret (em_bl))) (sm_nil))))
      (sm_one (sm_ret (em_bl))))))
def m_Lines___init__ : M Fl := mSeq (mSetF 0 11 "texts" (mCB pList [mVar 1])) (mSetF 0 11 "place" (mK (.int 0)))
def f_Lines___init__ : PV → List PV → Option (PV × RO) := runI N_Lines___init__.length m_Lines___init__
theorem ok_Lines___init__ (T : Txt K mg cl fa fd) : FnOk P w K mg base (L2N.CX P w) 1 (fa 6) (fd 6) ["self", "texts"] (spI K cl 2 f_Lines___init__) :=
  fnI (k := 0) (m := m_Lines___init__) T.F_Lines___init__ sc_Lines___init__ (fun cdv A outer s H E hr => by
    have hu := hu64 hr
    have tk : L2N.Takes (cxOf (L2N.CX P w) P w K mg base N_Lines___init__ "Lines.__init__" (defScope s_Lines___init__) (fa 6) cdv A outer s H E) (fun c d _ H' => E c d H') := L2N.takes_of rfl rfl rfl rfl
    exact (sm_cons (sm_setF (c := 11) T.c11 T.n11_texts (pv 0) (em_fm (fm_ct cr_list cs_list T.z_list (am_cons (em_v 1) (am_nil)))))
      (sm_one (sm_setF (c := 11) T.c11 T.n11_place (pv 0) (em_int)))))
def m_Lines_line_words : M Fl := mSeq (mIf (mOr (mTest (mBin pGeI (mFldV 0 11 "place") (mCB pLen [mFldV 0 11 "texts"]))) (mNot (mTru (mIsa (ansT noOc "str") (mBin pIx (mFldV 0 11 "texts") (mFldV 0 11 "place")))))) (mRaise 5 [("line", 0), ("word", 1)] [mFldV 0 11 "place", mK (.int 0)]) (mNx)) (mRet (mBinS pSplit (mBin pIx (mFldV 0 11 "texts") (mFldV 0 11 "place")) (mK (.str " "))))
def f_Lines_line_words : PV → List PV → Option (PV × RO) := runI N_Lines_line_words.length m_Lines_line_words
theorem ok_Lines_line_words (T : Txt K mg cl fa fd) : FnOk P w K mg base (L2N.CX P w) 3 (fa 8) (fd 8) ["self"] (spI K cl 1 f_Lines_line_words) :=
  fnI (k := 2) (m := m_Lines_line_words) T.F_Lines_line_words sc_Lines_line_words (fun cdv A outer s H E hr => by
    have hu := hu64 hr
    have tk : L2N.Takes (cxOf (L2N.CX P w) P w K mg base N_Lines_line_words "Lines.line_words" (defScope s_Lines_line_words) (fa 8) cdv A outer s H E) (fun c d _ H' => E c d H') := L2N.takes_of rfl rfl rfl rfl
    exact (sm_cons (sm_if (tm_w (wm_or (tm_cmp br_ge (em_fldV (c := 11) (pv 0) T.c11 T.n11_place) (em_cb cr_lenA cs_len T.z_len (am_cons (em_fldV (c := 11) (pv 0) T.c11 T.n11_texts) (am_nil))) (nomark _)) (wm_or1 (tm_not (tm_tru (em_isa (isa_T0) (.ty _) T.z_isinstance (em_ix hu (em_fldV (c := 11) (pv 0) T.c11 T.n11_texts) (em_fldV (c := 11) (pv 0) T.c11 T.n11_place)) (pe_bltn (x := "str") (by rfl) T.z_str (v := .ty "str") (by rfl) rfl))))))) (sm_one (sm_raise (c := 5) (fl := [("line", 0), ("word", 1)]) rfl tk T.x5 T.i5 T.t5 (ok_BadLine___init__ T) (hr.mono (by first | decide | omega)) T.b_BadLine___init__ T.g_BadLine (am_cons (em_fldV (c := 11) (pv 0) T.c11 T.n11_place) (am_cons (em_int) (am_nil))))) (sm_nil))
      (sm_one (sm_ret (em_split (em_ix hu (em_fldV (c := 11) (pv 0) T.c11 T.n11_texts) (em_fldV (c := 11) (pv 0) T.c11 T.n11_place)) (em_str))))))
def m_Lines_first_word : M Fl := mSeq (mIf (mTest (mBin pGeI (mFldV 0 11 "place") (mCB pLen [mFldV 0 11 "texts"]))) (mRet (mK .non)) (mNx)) (mRet (mBin pIx (mMethI 0 11 "line_words" f_Lines_line_words []) (mK (.int 0))))
def f_Lines_first_word : PV → List PV → Option (PV × RO) := runI N_Lines_first_word.length m_Lines_first_word
theorem ok_Lines_first_word (T : Txt K mg cl fa fd) : FnOk P w K mg base (L2N.CX P w) 4 (fa 9) (fd 9) ["self"] (spI K cl 1 f_Lines_first_word) :=
  fnI (k := 3) (m := m_Lines_first_word) T.F_Lines_first_word sc_Lines_first_word (fun cdv A outer s H E hr => by
    have hu := hu64 hr
    have tk : L2N.Takes (cxOf (L2N.CX P w) P w K mg base N_Lines_first_word "Lines.first_word" (defScope s_Lines_first_word) (fa 9) cdv A outer s H E) (fun c d _ H' => E c d H') := L2N.takes_of rfl rfl rfl rfl
    exact (sm_cons (sm_if (tm_cmp br_ge (em_fldV (c := 11) (pv 0) T.c11 T.n11_place) (em_cb cr_lenA cs_len T.z_len (am_cons (em_fldV (c := 11) (pv 0) T.c11 T.n11_texts) (am_nil))) (nomark _)) (sm_one (sm_ret (em_non))) (sm_nil))
      (sm_one (sm_ret (em_ix hu (em_methI0 (i := 0) (c := 11) tk T.c11 T.mm11_line_words (ok_Lines_line_words T) (hr.mono (by first | decide | omega)) T.b_Lines_line_words (pv 0)) (em_int))))))
def m_Lines_many_words : M Fl := mRet (mCB pLen [mMethI 0 11 "line_words" f_Lines_line_words []])
def f_Lines_many_words : PV → List PV → Option (PV × RO) := runI N_Lines_many_words.length m_Lines_many_words
theorem ok_Lines_many_words (T : Txt K mg cl fa fd) : FnOk P w K mg base (L2N.CX P w) 4 (fa 10) (fd 10) ["self"] (spI K cl 1 f_Lines_many_words) :=
  fnI (k := 3) (m := m_Lines_many_words) T.F_Lines_many_words sc_Lines_many_words (fun cdv A outer s H E hr => by
    have hu := hu64 hr
    have tk : L2N.Takes (cxOf (L2N.CX P w) P w K mg base N_Lines_many_words "Lines.many_words" (defScope s_Lines_many_words) (fa 10) cdv A outer s H E) (fun c d _ H' => E c d H') := L2N.takes_of rfl rfl rfl rfl
    exact (sm_one (sm_ret (em_cb cr_lenA cs_len T.z_len (am_cons (em_methI0 (i := 0) (c := 11) tk T.c11 T.mm11_line_words (ok_Lines_line_words T) (hr.mono (by first | decide | omega)) T.b_Lines_line_words (pv 0)) (am_nil))))))
def m_Lines_word_at : M Fl := mSeq (mSet 2 (mMethI 0 11 "line_words" f_Lines_line_words [])) (mSeq (mIf (mTest (mBin pGeI (mVar 1) (mCBV pLen 2))) (mRaise 5 [("line", 0), ("word", 1)] [mFldV 0 11 "place", mCBV pLen 2]) (mNx)) (mRet (mIxV 2 (mVar 1))))
def f_Lines_word_at : PV → List PV → Option (PV × RO) := runI N_Lines_word_at.length m_Lines_word_at
theorem ok_Lines_word_at (T : Txt K mg cl fa fd) : FnOk P w K mg base (L2N.CX P w) 4 (fa 11) (fd 11) ["self", "k"] (spI K cl 2 f_Lines_word_at) :=
  fnI (k := 3) (m := m_Lines_word_at) T.F_Lines_word_at sc_Lines_word_at (fun cdv A outer s H E hr => by
    have hu := hu64 hr
    have tk : L2N.Takes (cxOf (L2N.CX P w) P w K mg base N_Lines_word_at "Lines.word_at" (defScope s_Lines_word_at) (fa 11) cdv A outer s H E) (fun c d _ H' => E c d H') := L2N.takes_of rfl rfl rfl rfl
    exact (sm_cons (sm_set (i := 2) sc_Lines_word_at.nd rfl (by first | exact Or.inl rfl | exact Or.inr rfl) (em_methI0 (i := 0) (c := 11) tk T.c11 T.mm11_line_words (ok_Lines_line_words T) (hr.mono (by first | decide | omega)) T.b_Lines_line_words (pv 0)))
      (sm_cons (sm_if (tm_cmp br_ge (em_v 1) (em_cbV cr_lenA cs_len T.z_len (pv 2)) (nomark _)) (sm_one (sm_raise (c := 5) (fl := [("line", 0), ("word", 1)]) rfl tk T.x5 T.i5 T.t5 (ok_BadLine___init__ T) (hr.mono (by first | decide | omega)) T.b_BadLine___init__ T.g_BadLine (am_cons (em_fldV (c := 11) (pv 0) T.c11 T.n11_place) (am_cons (em_cbV cr_lenA cs_len T.z_len (pv 2)) (am_nil))))) (sm_nil))
      (sm_one (sm_ret (em_ixV hu (pv 2) (em_v 1)))))))
def m_Lines_fail_at : M Fl := mRaise 5 [("line", 0), ("word", 1)] [mFldV 0 11 "place", mVar 1]
def f_Lines_fail_at : PV → List PV → Option (PV × RO) := runI N_Lines_fail_at.length m_Lines_fail_at
theorem ok_Lines_fail_at (T : Txt K mg cl fa fd) : FnOk P w K mg base (L2N.CX P w) 3 (fa 13) (fd 13) ["self", "k"] (spI K cl 2 f_Lines_fail_at) :=
  fnI (k := 2) (m := m_Lines_fail_at) T.F_Lines_fail_at sc_Lines_fail_at (fun cdv A outer s H E hr => by
    have hu := hu64 hr
    have tk : L2N.Takes (cxOf (L2N.CX P w) P w K mg base N_Lines_fail_at "Lines.fail_at" (defScope s_Lines_fail_at) (fa 13) cdv A outer s H E) (fun c d _ H' => E c d H') := L2N.takes_of rfl rfl rfl rfl
    exact (sm_one (sm_raise (c := 5) (fl := [("line", 0), ("word", 1)]) rfl tk T.x5 T.i5 T.t5 (ok_BadLine___init__ T) (hr.mono (by first | decide | omega)) T.b_BadLine___init__ T.g_BadLine (am_cons (em_fldV (c := 11) (pv 0) T.c11 T.n11_place) (am_cons (em_v 1) (am_nil))))))
def m_Lines_want_word : M Fl := mIf (mTest (mBin pNe (mBin pIx (mMethI 0 11 "line_words" f_Lines_line_words []) (mK (.int 0))) (mVar 1))) (mRaise 5 [("line", 0), ("word", 1)] [mFldV 0 11 "place", mK (.int 0)]) (mNx)
def f_Lines_want_word : PV → List PV → Option (PV × RO) := runI N_Lines_want_word.length m_Lines_want_word
theorem ok_Lines_want_word (T : Txt K mg cl fa fd) : FnOk P w K mg base (L2N.CX P w) 4 (fa 17) (fd 17) ["self", "word"] (spI K cl 2 f_Lines_want_word) :=
  fnI (k := 3) (m := m_Lines_want_word) T.F_Lines_want_word sc_Lines_want_word (fun cdv A outer s H E hr => by
    have hu := hu64 hr
    have tk : L2N.Takes (cxOf (L2N.CX P w) P w K mg base N_Lines_want_word "Lines.want_word" (defScope s_Lines_want_word) (fa 17) cdv A outer s H E) (fun c d _ H' => E c d H') := L2N.takes_of rfl rfl rfl rfl
    exact (sm_one (sm_if (tm_cmp (br_ne hu) (em_ix hu (em_methI0 (i := 0) (c := 11) tk T.c11 T.mm11_line_words (ok_Lines_line_words T) (hr.mono (by first | decide | omega)) T.b_Lines_line_words (pv 0)) (em_int)) (em_v 1) (nomark _)) (sm_one (sm_raise (c := 5) (fl := [("line", 0), ("word", 1)]) rfl tk T.x5 T.i5 T.t5 (ok_BadLine___init__ T) (hr.mono (by first | decide | omega)) T.b_BadLine___init__ T.g_BadLine (am_cons (em_fldV (c := 11) (pv 0) T.c11 T.n11_place) (am_cons (em_int) (am_nil))))) (sm_nil))))
def m_Lines_close_at : M Fl := mSeq (mIf (mTest (mBin pGtI (mCB pLen [mMethI 0 11 "line_words" f_Lines_line_words []]) (mVar 1))) (mRaise 5 [("line", 0), ("word", 1)] [mFldV 0 11 "place", mVar 1]) (mNx)) (mIncF 0 11 "place" 1)
def f_Lines_close_at : PV → List PV → Option (PV × RO) := runI N_Lines_close_at.length m_Lines_close_at
theorem ok_Lines_close_at (T : Txt K mg cl fa fd) : FnOk P w K mg base (L2N.CX P w) 4 (fa 18) (fd 18) ["self", "k"] (spI K cl 2 f_Lines_close_at) :=
  fnI (k := 3) (m := m_Lines_close_at) T.F_Lines_close_at sc_Lines_close_at (fun cdv A outer s H E hr => by
    have hu := hu64 hr
    have tk : L2N.Takes (cxOf (L2N.CX P w) P w K mg base N_Lines_close_at "Lines.close_at" (defScope s_Lines_close_at) (fa 18) cdv A outer s H E) (fun c d _ H' => E c d H') := L2N.takes_of rfl rfl rfl rfl
    exact (sm_cons (sm_if (tm_cmp br_gt (em_cb cr_lenA cs_len T.z_len (am_cons (em_methI0 (i := 0) (c := 11) tk T.c11 T.mm11_line_words (ok_Lines_line_words T) (hr.mono (by first | decide | omega)) T.b_Lines_line_words (pv 0)) (am_nil))) (em_v 1) (nomark _)) (sm_one (sm_raise (c := 5) (fl := [("line", 0), ("word", 1)]) rfl tk T.x5 T.i5 T.t5 (ok_BadLine___init__ T) (hr.mono (by first | decide | omega)) T.b_BadLine___init__ T.g_BadLine (am_cons (em_fldV (c := 11) (pv 0) T.c11 T.n11_place) (am_cons (em_v 1) (am_nil))))) (sm_nil))
      (sm_one (sm_incF (c := 11) T.c11 T.n11_place (pv 0)))))
def m_no_more : M Fl := mIf (mTest (mIsN true (mMethI 0 11 "first_word" f_Lines_first_word []))) (mDrop (mMethI 0 11 "fail_at" f_Lines_fail_at [mK (.int 0)])) (mNx)
def f_no_more : PV → List PV → Option (PV × RO) := runI N_no_more.length m_no_more
theorem ok_no_more (T : Txt K mg cl fa fd) : FnOk P w K mg base (L2N.CX P w) 5 (fa 19) (fd 19) ["lines"] (spI K cl 1 f_no_more) :=
  fnI (k := 4) (m := m_no_more) T.F_no_more sc_no_more (fun cdv A outer s H E hr => by
    have hu := hu64 hr
    have tk : L2N.Takes (cxOf (L2N.CX P w) P w K mg base N_no_more "no_more" (defScope s_no_more) (fa 19) cdv A outer s H E) (fun c d _ H' => E c d H') := L2N.takes_of rfl rfl rfl rfl
    exact (sm_one (sm_if (tm_notN (em_methI0 (i := 0) (c := 11) tk T.c11 T.mm11_first_word (ok_Lines_first_word T) (hr.mono (by first | decide | omega)) T.b_Lines_first_word (pv 0))) (sm_one (sm_expr (em_methI (i := 0) (c := 11) tk T.c11 T.mm11_fail_at (ok_Lines_fail_at T) (hr.mono (by first | decide | omega)) T.b_Lines_fail_at (pv 0) (am_cons (em_int) (am_nil))))) (sm_nil))))
def m_write_reading : M Fl := mSeq (mSetO 1 (mLst [mK (.str "read")])) (mSeq (mFor (mIterA (mCall f_deep [mVar 0])) (gT [gN 2, gN 3]) (mApp 1 (mIfE (mTest (mBin pEq (mVar 3) (mK (.int 0)))) (mVar 2) (mBin pAdd (mBin pAdd (mVar 2) (mK (.str ":"))) (mCB pStrI [mVar 3]))))) (mRet (mBinS pJoin (mK (.str " ")) (mVar 1))))
def f_write_reading : List PV → Option RO := runP N_write_reading.length m_write_reading
theorem ok_write_reading (T : Txt K mg cl fa fd) : FnOk P w K mg base (L2N.CX P w) 9 (fa 20) (fd 20) ["reading"] (spP K cl 1 f_write_reading) :=
  fnP (k := 8) (m := m_write_reading) T.F_write_reading sc_write_reading (fun cdv A outer s H E hr => by
    have hu := hu64 hr
    have tk : L2N.Takes (cxOf (L2N.CX P w) P w K mg base N_write_reading "write_reading" (defScope s_write_reading) (fa 20) cdv A outer s H E) (fun c d _ H' => E c d H') := L2N.takes_of rfl rfl rfl rfl
    exact (sm_cons (sm_setO (i := 1) sc_write_reading.nd rfl (by first | exact Or.inl rfl | exact Or.inr rfl) (fm_lst (am_cons (em_str) (am_nil))))
      (sm_cons (sm_for (passes_of rfl) rfl (im_any (em_call tk (ok_deep T) (hr.mono (by first | decide | omega)) T.g_deep T.k_deep T.b_deep (am_cons (em_v 0) (am_nil)))) (gm_of (pg_tup rfl (pgs_cons (pg_name (i := 2) sc_write_reading.nd rfl (by first | exact Or.inl rfl | exact Or.inr rfl)) (pgs_cons (pg_name (i := 3) sc_write_reading.nd rfl (by first | exact Or.inl rfl | exact Or.inr rfl)) (pgs_nil)))) (does_gT (does_gCons does_gN (does_gCons does_gN (does_gNil))) rfl)) (sm_one (sm_app (pv 1) (em_ife (tm_cmp (br_eq hu) (em_v 3) (em_int) (nomark _)) (em_v 2) (em_op br_add (em_op br_add (em_v 2) (em_str)) (em_ct call_str_int cs_strI T.z_str (am_cons (em_v 3) (am_nil))))))))
      (sm_one (sm_ret (em_join (em_str) (em_v 1)))))))
def m_write_work : M Fl := mRet (mCB pTuple [mLc [1] (mIterA (mVar 0)) (gN 1) mYes (mCall f_write_reading [mVar 1])])
def f_write_work : List PV → Option RO := runP N_write_work.length m_write_work
theorem ok_write_work (T : Txt K mg cl fa fd) : FnOk P w K mg base (L2N.CX P w) 10 (fa 21) (fd 21) ["chapters"] (spP K cl 1 f_write_work) :=
  fnP (k := 9) (m := m_write_work) T.F_write_work sc_write_work (fun cdv A outer s H E hr => by
    have hu := hu64 hr
    have tk : L2N.Takes (cxOf (L2N.CX P w) P w K mg base N_write_work "write_work" (defScope s_write_work) (fa 21) cdv A outer s H E) (fun c d _ H' => E c d H') := L2N.takes_of rfl rfl rfl rfl
    exact (sm_one (sm_ret (em_ct cr_tuple cs_tuple T.z_tuple (am_cons (LcM.em (LcM.mk (own := [("chapter", 1)]) (im_any (em_v 0)) (blkOk_by (own := [("chapter", 1)]) (N := N_write_work) (sc := defScope s_write_work) (by decide +kernel)) (blk_tg (fun _ _ _ _ _ => pg_name (i := 1) sc_write_work.nd rfl (by first | exact Or.inl rfl | exact Or.inr rfl)) (does_gN) (gin_N (by decide))) (blk_ts fun _ _ _ _ _ => ts_nil) (blk_em fun _ _ _ _ _ => em_call takes_W0 (ok_write_reading T) (hr.mono (by first | decide | omega)) T.g_write_reading T.k_write_reading T.b_write_reading (am_cons (em_v 1) (am_nil)))) rfl sc_write_work.nd) (am_nil))))))
def m_pick_pair_at : M Fl := mSeq (mAsg (mBinS pParts (mMethI 0 11 "word_at" f_Lines_word_at [mVar 1]) (mK (.str ":"))) (gT [gN 2, gN 3, gN 4])) (mSeq (mIf (mOr (mNot (mTru (mCall f_is_word [mVar 2]))) (mAnd (mTest (mBin pEq (mVar 3) (mK (.str ":")))) (mTest (mBin pHasNot (mVar 4) (mK (.tup [.str "1", .str "2"])))))) (mDrop (mMethI 0 11 "fail_at" f_Lines_fail_at [mVar 1])) (mNx)) (mRet (mTup [mVar 2, mIfE (mTest (mBin pEq (mVar 3) (mK (.str "")))) (mK (.int 0)) (mCB pIntS [mVar 4])])))
def f_pick_pair_at : PV → List PV → Option (PV × RO) := runI N_pick_pair_at.length m_pick_pair_at
theorem ok_pick_pair_at (T : Txt K mg cl fa fd) : FnOk P w K mg base (L2N.CX P w) 5 (fa 22) (fd 22) ["lines", "at"] (spI K cl 2 f_pick_pair_at) :=
  fnI (k := 4) (m := m_pick_pair_at) T.F_pick_pair_at sc_pick_pair_at (fun cdv A outer s H E hr => by
    have hu := hu64 hr
    have tk : L2N.Takes (cxOf (L2N.CX P w) P w K mg base N_pick_pair_at "pick_pair_at" (defScope s_pick_pair_at) (fa 22) cdv A outer s H E) (fun c d _ H' => E c d H') := L2N.takes_of rfl rfl rfl rfl
    exact (sm_cons (sm_asg (em_parts (em_methI (i := 0) (c := 11) tk T.c11 T.mm11_word_at (ok_Lines_word_at T) (hr.mono (by first | decide | omega)) T.b_Lines_word_at (pv 0) (am_cons (em_v 1) (am_nil))) (em_str)) (gm_of (pg_tup rfl (pgs_cons (pg_name (i := 2) sc_pick_pair_at.nd rfl (by first | exact Or.inl rfl | exact Or.inr rfl)) (pgs_cons (pg_name (i := 3) sc_pick_pair_at.nd rfl (by first | exact Or.inl rfl | exact Or.inr rfl)) (pgs_cons (pg_name (i := 4) sc_pick_pair_at.nd rfl (by first | exact Or.inl rfl | exact Or.inr rfl)) (pgs_nil))))) (does_gT (does_gCons does_gN (does_gCons does_gN (does_gCons does_gN (does_gNil)))) rfl)))
      (sm_cons (sm_if (tm_w (wm_or (tm_not (tm_tru (em_call tk (ok_is_word T) (hr.mono (by first | decide | omega)) T.g_is_word T.k_is_word T.b_is_word (am_cons (em_v 2) (am_nil))))) (wm_or1 (tm_w (wm_and (tm_cmp (br_eq hu) (em_v 3) (em_str) (nomark _)) (wm_and1 (tm_cmp (br_hasNot hu) (em_v 4) (em_gtup (x := "PICKS_TOLD") (us := ["1", "2"]) T.gs_PICKS_TOLD) rfl))))))) (sm_one (sm_expr (em_methI (i := 0) (c := 11) tk T.c11 T.mm11_fail_at (ok_Lines_fail_at T) (hr.mono (by first | decide | omega)) T.b_Lines_fail_at (pv 0) (am_cons (em_v 1) (am_nil))))) (sm_nil))
      (sm_one (sm_ret (em_tup (am_cons (em_v 2) (am_cons (em_ife (tm_cmp (br_eq hu) (em_v 3) (em_str) (nomark _)) (em_int) (em_ct call_int_str cs_intS T.z_int (am_cons (em_v 4) (am_nil)))) (am_nil)))))))))
def m_reading_row : M Fl := mSeq (mDrop (mMethI 0 11 "want_word" f_Lines_want_word [mK (.str "read")])) (mSeq (mSet 1 (mMethI 0 11 "many_words" f_Lines_many_words [])) (mSeq (mSet 2 (mCB pTuple [mLcX [3] (mRng2 (mK (.int 1)) (mVar 1)) (gN 3) mYes (mCallI 0 f_pick_pair_at [mVar 3])])) (mSeq (mDrop (mMethI 0 11 "close_at" f_Lines_close_at [mVar 1])) (mRet (mVar 2)))))
def f_reading_row : PV → List PV → Option (PV × RO) := runI N_reading_row.length m_reading_row
theorem ok_reading_row (T : Txt K mg cl fa fd) : FnOk P w K mg base (L2N.CX P w) 6 (fa 23) (fd 23) ["lines"] (spI K cl 1 f_reading_row) :=
  fnI (k := 5) (m := m_reading_row) T.F_reading_row sc_reading_row (fun cdv A outer s H E hr => by
    have hu := hu64 hr
    have tk : L2N.Takes (cxOf (L2N.CX P w) P w K mg base N_reading_row "reading_row" (defScope s_reading_row) (fa 23) cdv A outer s H E) (fun c d _ H' => E c d H') := L2N.takes_of rfl rfl rfl rfl
    exact (sm_cons (sm_expr (em_methI (i := 0) (c := 11) tk T.c11 T.mm11_want_word (ok_Lines_want_word T) (hr.mono (by first | decide | omega)) T.b_Lines_want_word (pv 0) (am_cons (em_str) (am_nil))))
      (sm_cons (sm_set (i := 1) sc_reading_row.nd rfl (by first | exact Or.inl rfl | exact Or.inr rfl) (em_methI0 (i := 0) (c := 11) tk T.c11 T.mm11_many_words (ok_Lines_many_words T) (hr.mono (by first | decide | omega)) T.b_Lines_many_words (pv 0)))
      (sm_cons (sm_set (i := 2) sc_reading_row.nd rfl (by first | exact Or.inl rfl | exact Or.inr rfl) (em_ct cr_tuple cs_tuple T.z_tuple (am_cons (LcMX.em (LcMX.mk (own := [("at", 3)]) (im_rng2 (em_int) (em_v 1) T.z_range) (blkOk_by (own := [("at", 3)]) (N := N_reading_row) (sc := defScope s_reading_row) (by decide +kernel)) (blk_tgX (fun _ _ _ _ _ _ => pg_name (i := 3) sc_reading_row.nd rfl (by first | exact Or.inl rfl | exact Or.inr rfl)) (does_gN) (gin_N (by decide))) (blk_tsX fun _ _ _ _ _ _ => ts_nil) (blk_emX fun Wb _ _ _ _ _ _ tkB => em_callI tkB (ok_pick_pair_at T) (hr.mono (by decide)) T.g_pick_pair_at T.k_pick_pair_at T.b_pick_pair_at (pv 0) (am_cons (em_v 3) (am_nil)))) rfl rfl tk rfl sc_reading_row.nd) (am_nil))))
      (sm_cons (sm_expr (em_methI (i := 0) (c := 11) tk T.c11 T.mm11_close_at (ok_Lines_close_at T) (hr.mono (by first | decide | omega)) T.b_Lines_close_at (pv 0) (am_cons (em_v 1) (am_nil))))
      (sm_one (sm_ret (em_v 2))))))))
def m_read_reading : M Fl := mRet (mCallIF f_reading_row (mMake 11 f_Lines___init__ [mTup [mVar 0]]))
def f_read_reading : List PV → Option RO := runP N_read_reading.length m_read_reading
theorem ok_read_reading (T : Txt K mg cl fa fd) : FnOk P w K mg base (L2N.CX P w) 7 (fa 24) (fd 24) ["line"] (spP K cl 1 f_read_reading) :=
  fnP (k := 6) (m := m_read_reading) T.F_read_reading sc_read_reading (fun cdv A outer s H E hr => by
    have hu := hu64 hr
    have tk : L2N.Takes (cxOf (L2N.CX P w) P w K mg base N_read_reading "read_reading" (defScope s_read_reading) (fa 24) cdv A outer s H E) (fun c d _ H' => E c d H') := L2N.takes_of rfl rfl rfl rfl
    exact (sm_one (sm_ret (em_callIF tk (ok_reading_row T) (hr.mono (by decide)) T.g_reading_row T.k_reading_row T.b_reading_row (fm_make (c := 11) tk T.m11 (ok_Lines___init__ T) (hr.mono (by first | decide | omega)) T.g_Lines T.b_Lines___init__ (am_cons (em_tup (am_cons (em_v 0) (am_nil))) (am_nil)))))))
def m_read_work : M Fl := mSeq (mSetO 1 (mMake 11 f_Lines___init__ [mVar 0])) (mSeq (mSetO 2 (mLst [mCallI 1 f_reading_row []])) (mSeq (whileM (mAnd (mTest (mBin pLt (mCBV pLen 2) (mK (.int 6)))) (mTest (mIsN true (mMethI 1 11 "first_word" f_Lines_first_word [])))) (mApp 2 (mCallI 1 f_reading_row [])) 200) (mSeq (mDrop (mCallI 1 f_no_more [])) (mRet (mCB pTuple [mVar 2])))))
def f_read_work : List PV → Option RO := runP N_read_work.length m_read_work
theorem ok_read_work (T : Txt K mg cl fa fd) : FnOk P w K mg base (L2N.CX P w) 7 (fa 25) (fd 25) ["lines"] (spP K cl 1 f_read_work) :=
  fnP (k := 6) (m := m_read_work) T.F_read_work sc_read_work (fun cdv A outer s H E hr => by
    have hu := hu64 hr
    have tk : L2N.Takes (cxOf (L2N.CX P w) P w K mg base N_read_work "read_work" (defScope s_read_work) (fa 25) cdv A outer s H E) (fun c d _ H' => E c d H') := L2N.takes_of rfl rfl rfl rfl
    exact (sm_cons (sm_setO (i := 1) sc_read_work.nd rfl (by first | exact Or.inl rfl | exact Or.inr rfl) (fm_make (c := 11) tk T.m11 (ok_Lines___init__ T) (hr.mono (by first | decide | omega)) T.g_Lines T.b_Lines___init__ (am_cons (em_v 0) (am_nil))))
      (sm_cons (sm_setO (i := 2) sc_read_work.nd rfl (by first | exact Or.inl rfl | exact Or.inr rfl) (fm_lst (am_cons (em_callI tk (ok_reading_row T) (hr.mono (by decide)) T.g_reading_row T.k_reading_row T.b_reading_row (pv 1) (am_nil)) (am_nil))))
      (sm_cons (sm_while 200 (passes_of rfl) (tm_w (wm_and (tm_cmp (br_lt hu) (em_cbV cr_lenA cs_len T.z_len (pv 2)) (em_int) (nomark _)) (wm_and1 (tm_notN (em_methI0 (i := 1) (c := 11) tk T.c11 T.mm11_first_word (ok_Lines_first_word T) (hr.mono (by first | decide | omega)) T.b_Lines_first_word (pv 1)))))) (sm_one (sm_app (pv 2) (em_callI tk (ok_reading_row T) (hr.mono (by decide)) T.g_reading_row T.k_reading_row T.b_reading_row (pv 1) (am_nil)))))
      (sm_cons (sm_expr (em_callI tk (ok_no_more T) (hr.mono (by decide)) T.g_no_more T.k_no_more T.b_no_more (pv 1) (am_nil)))
      (sm_one (sm_ret (em_ct cr_tuple cs_tuple T.z_tuple (am_cons (em_v 2) (am_nil))))))))))
def m__law_source : M PV := mLst [mVar 0, mVar 1, mK (.int 0), mK (.int 0), mK (.int 0)]
def f__law_source : List PV → Option RO := runO N__law_source.length m__law_source
theorem ok__law_source (T : Txt K mg cl fa fd) : FnOk P w K mg base (L2N.CX P w) 1 (fa 26) (fd 26) ["script", "salt"] (spO K cl 2 f__law_source) :=
  fnO (k := 0) (m := m__law_source) T.F__law_source sc__law_source rfl (fun cdv A outer s H E hr => by
    have hu := hu64 hr
    have tk : L2N.Takes (cxOf (L2N.CX P w) P w K mg base N__law_source "_law_source" (defScope s__law_source) (fa 26) cdv A outer s H E) (fun c d _ H' => E c d H') := L2N.takes_of rfl rfl rfl rfl
    exact (fm_lst (am_cons (em_v 0) (am_cons (em_v 1) (am_cons (em_int) (am_cons (em_int) (am_cons (em_int) (am_nil))))))))
def m__law_next : M Fl := mSeq (mSet 1 (mIxV 0 (mK (.int 0)))) (mSeq (mSet 2 (mIxV 0 (mK (.int 1)))) (mSeq (mSet 3 (mIfE (mTest (mBin pLt (mVar 2) (mCBV pLen 1))) (mIxV 1 (mVar 2)) (mBin pMod (mCB pInt [mBin pAdd (mCB pSum [mSl (mVar 1) (mNoB) (mBd (mK (.int 1)))]) (mBin pMul (mK (.int 31)) (mVar 2))]) (mK (.int 1000003))))) (mSeq (mPut 0 (mK (.int 1)) (mBin pAdd (mVar 2) (mK (.int 1)))) (mSeq (mPut 0 (mK (.int 2)) (mIfE (mTest (mBin pGeI (mCB pAbs [mVar 3]) (mBin pPow (mK (.int 10)) (mK (.int 18))))) (mBin pAdd (mCB pAbs [mVar 3]) (mCB pInt [mBin pLt (mVar 3) (mK (.int 0))])) (mK (.int 0)))) (mSeq (mPut 0 (mK (.int 3)) (mBin pAdd (mBin pMod (mCB pInt [mVar 3]) (mK (.int 2147483629))) (mBin pMul (mK (.int 17)) (mIxV 0 (mK (.int 1)))))) (mPut 0 (mK (.int 4)) (mK (.int 0))))))))
def f__law_next : PV → List PV → Option (PV × RO) := runI N__law_next.length m__law_next
theorem ok__law_next (T : Txt K mg cl fa fd) : FnOk P w K mg base (L2N.CX P w) 1 (fa 27) (fd 27) ["source"] (spI K cl 1 f__law_next) :=
  fnI (k := 0) (m := m__law_next) T.F__law_next sc__law_next (fun cdv A outer s H E hr => by
    have hu := hu64 hr
    have tk : L2N.Takes (cxOf (L2N.CX P w) P w K mg base N__law_next "_law_next" (defScope s__law_next) (fa 27) cdv A outer s H E) (fun c d _ H' => E c d H') := L2N.takes_of rfl rfl rfl rfl
    exact (sm_cons (sm_set (i := 1) sc__law_next.nd rfl (by first | exact Or.inl rfl | exact Or.inr rfl) (em_ixV hu (pv 0) (em_int)))
      (sm_cons (sm_set (i := 2) sc__law_next.nd rfl (by first | exact Or.inl rfl | exact Or.inr rfl) (em_ixV hu (pv 0) (em_int)))
      (sm_cons (sm_set (i := 3) sc__law_next.nd rfl (by first | exact Or.inl rfl | exact Or.inr rfl) (em_ife (tm_cmp (br_lt hu) (em_v 2) (em_cbV cr_lenA cs_len T.z_len (pv 1)) (nomark _)) (em_ixV hu (pv 1) (em_v 2)) (em_op br_mod (em_ct call_int1 cs_int T.z_int (am_cons (em_op br_add (em_cb (cr_sum rfl) cs_sum T.z_sum (am_cons (em_sl (em_v 1) (om_none) (om_some (em_int))) (am_nil))) (em_op br_mul (em_int) (em_v 2))) (am_nil))) (em_int))))
      (sm_cons (sm_put hu (pv 0) (em_int) (em_op br_add (em_v 2) (em_int)))
      (sm_cons (sm_put hu (pv 0) (em_int) (em_ife (tm_cmp br_ge (em_cb call_abs cs_abs T.z_abs (am_cons (em_v 3) (am_nil))) (em_op br_pow (em_int) (em_int)) (nomark _)) (em_op br_add (em_cb call_abs cs_abs T.z_abs (am_cons (em_v 3) (am_nil))) (em_ct call_int1 cs_int T.z_int (am_cons (em_cmp (br_lt hu) (em_v 3) (em_int) (nomark _)) (am_nil)))) (em_int)))
      (sm_cons (sm_put hu (pv 0) (em_int) (em_op br_add (em_op br_mod (em_ct call_int1 cs_int T.z_int (am_cons (em_v 3) (am_nil))) (em_int)) (em_op br_mul (em_int) (em_ixV hu (pv 0) (em_int)))))
      (sm_one (sm_put hu (pv 0) (em_int) (em_int))))))))))
def m__law_pick : M Fl := mSeq (mIf (mTest (mBin pGtI (mIxV 0 (mK (.int 2))) (mK (.int 0)))) (mSeq (mSet 2 (mBin pMod (mCB pInt [mIxV 0 (mK (.int 2))]) (mVar 1))) (mSeq (mPut 0 (mK (.int 2)) (mBin pDiv (mIxV 0 (mK (.int 2))) (mVar 1))) (mRet (mVar 2)))) (mNx)) (mSeq (mPut 0 (mK (.int 4)) (mBin pAdd (mIxV 0 (mK (.int 4))) (mK (.int 1)))) (mSeq (mSet 3 (mBin pMod (mCB pInt [mBin pAdd (mBin pAdd (mBin pMul (mIxV 0 (mK (.int 3))) (mK (.int 48271))) (mBin pMul (mIxV 0 (mK (.int 4))) (mK (.int 1234577)))) (mK (.int 7))]) (mK (.int 2147483647)))) (mSeq (mSet 4 (mBin pMod (mCB pInt [mBin pAdd (mBin pMul (mVar 3) (mVar 3)) (mBin pMul (mK (.int 16807)) (mIxV 0 (mK (.int 4))))]) (mK (.int 2147483399)))) (mSeq (mSet 5 (mBin pMod (mCB pInt [mBin pMul (mVar 4) (mVar 4)]) (mK (.int 2147483029)))) (mRet (mBin pMod (mCB pInt [mBin pAdd (mBin pDiv (mVar 5) (mK (.int 11))) (mBin pDiv (mVar 3) (mK (.int 7)))]) (mVar 1)))))))
def f__law_pick : PV → List PV → Option (PV × RO) := runI N__law_pick.length m__law_pick
theorem ok__law_pick (T : Txt K mg cl fa fd) : FnOk P w K mg base (L2N.CX P w) 1 (fa 28) (fd 28) ["source", "many"] (spI K cl 2 f__law_pick) :=
  fnI (k := 0) (m := m__law_pick) T.F__law_pick sc__law_pick (fun cdv A outer s H E hr => by
    have hu := hu64 hr
    have tk : L2N.Takes (cxOf (L2N.CX P w) P w K mg base N__law_pick "_law_pick" (defScope s__law_pick) (fa 28) cdv A outer s H E) (fun c d _ H' => E c d H') := L2N.takes_of rfl rfl rfl rfl
    exact (sm_cons (sm_if (tm_cmp br_gt (em_ixV hu (pv 0) (em_int)) (em_int) (nomark _)) (sm_cons (sm_set (i := 2) sc__law_pick.nd rfl (by first | exact Or.inl rfl | exact Or.inr rfl) (em_op br_mod (em_ct call_int1 cs_int T.z_int (am_cons (em_ixV hu (pv 0) (em_int)) (am_nil))) (em_v 1)))
      (sm_cons (sm_put hu (pv 0) (em_int) (em_op br_div (em_ixV hu (pv 0) (em_int)) (em_v 1)))
      (sm_one (sm_ret (em_v 2))))) (sm_nil))
      (sm_cons (sm_put hu (pv 0) (em_int) (em_op br_add (em_ixV hu (pv 0) (em_int)) (em_int)))
      (sm_cons (sm_set (i := 3) sc__law_pick.nd rfl (by first | exact Or.inl rfl | exact Or.inr rfl) (em_op br_mod (em_ct call_int1 cs_int T.z_int (am_cons (em_op br_add (em_op br_add (em_op br_mul (em_ixV hu (pv 0) (em_int)) (em_int)) (em_op br_mul (em_ixV hu (pv 0) (em_int)) (em_int))) (em_int)) (am_nil))) (em_int)))
      (sm_cons (sm_set (i := 4) sc__law_pick.nd rfl (by first | exact Or.inl rfl | exact Or.inr rfl) (em_op br_mod (em_ct call_int1 cs_int T.z_int (am_cons (em_op br_add (em_op br_mul (em_v 3) (em_v 3)) (em_op br_mul (em_int) (em_ixV hu (pv 0) (em_int)))) (am_nil))) (em_int)))
      (sm_cons (sm_set (i := 5) sc__law_pick.nd rfl (by first | exact Or.inl rfl | exact Or.inr rfl) (em_op br_mod (em_ct call_int1 cs_int T.z_int (am_cons (em_op br_mul (em_v 4) (em_v 4)) (am_nil))) (em_int)))
      (sm_one (sm_ret (em_op br_mod (em_ct call_int1 cs_int T.z_int (am_cons (em_op br_add (em_op br_div (em_v 5) (em_int)) (em_op br_div (em_v 3) (em_int))) (am_nil))) (em_v 1))))))))))
def m__law_one_in : M Fl := mRet (mBin pEq (mCallI 0 f__law_pick [mVar 1]) (mK (.int 0)))
def f__law_one_in : PV → List PV → Option (PV × RO) := runI N__law_one_in.length m__law_one_in
theorem ok__law_one_in (T : Txt K mg cl fa fd) : FnOk P w K mg base (L2N.CX P w) 2 (fa 29) (fd 29) ["source", "many"] (spI K cl 2 f__law_one_in) :=
  fnI (k := 1) (m := m__law_one_in) T.F__law_one_in sc__law_one_in (fun cdv A outer s H E hr => by
    have hu := hu64 hr
    have tk : L2N.Takes (cxOf (L2N.CX P w) P w K mg base N__law_one_in "_law_one_in" (defScope s__law_one_in) (fa 29) cdv A outer s H E) (fun c d _ H' => E c d H') := L2N.takes_of rfl rfl rfl rfl
    exact (sm_one (sm_ret (em_cmp (br_eq hu) (em_callI tk (ok__law_pick T) (hr.mono (by decide)) T.g__law_pick T.k__law_pick T.b__law_pick (pv 0) (am_cons (em_v 1) (am_nil))) (em_int) (nomark _)))))
def m__law_one_of : M Fl := mRet (mIxV 1 (mCallI 0 f__law_pick [mCBV pLen 1]))
def f__law_one_of : PV → List PV → Option (PV × RO) := runI N__law_one_of.length m__law_one_of
theorem ok__law_one_of (T : Txt K mg cl fa fd) : FnOk P w K mg base (L2N.CX P w) 2 (fa 30) (fd 30) ["source", "row"] (spI K cl 2 f__law_one_of) :=
  fnI (k := 1) (m := m__law_one_of) T.F__law_one_of sc__law_one_of (fun cdv A outer s H E hr => by
    have hu := hu64 hr
    have tk : L2N.Takes (cxOf (L2N.CX P w) P w K mg base N__law_one_of "_law_one_of" (defScope s__law_one_of) (fa 30) cdv A outer s H E) (fun c d _ H' => E c d H') := L2N.takes_of rfl rfl rfl rfl
    exact (sm_one (sm_ret (em_ixV hu (pv 1) (em_callI tk (ok__law_pick T) (hr.mono (by decide)) T.g__law_pick T.k__law_pick T.b__law_pick (pv 0) (am_cons (em_cbV cr_lenA cs_len T.z_len (pv 1)) (am_nil)))))))
def m__law_letter : M Fl := mRet (mBin pIx (mK (.str "abcdefghijklmnopqrstuvwxyz")) (mBin pMod (mCB pInt [mVar 0]) (mK (.int 26))))
def f__law_letter : List PV → Option RO := runP N__law_letter.length m__law_letter
theorem ok__law_letter (T : Txt K mg cl fa fd) : FnOk P w K mg base (L2N.CX P w) 1 (fa 31) (fd 31) ["k"] (spP K cl 1 f__law_letter) :=
  fnP (k := 0) (m := m__law_letter) T.F__law_letter sc__law_letter (fun cdv A outer s H E hr => by
    have hu := hu64 hr
    have tk : L2N.Takes (cxOf (L2N.CX P w) P w K mg base N__law_letter "_law_letter" (defScope s__law_letter) (fa 31) cdv A outer s H E) (fun c d _ H' => E c d H') := L2N.takes_of rfl rfl rfl rfl
    exact (sm_one (sm_ret (em_ix hu (em_str) (em_op br_mod (em_ct call_int1 cs_int T.z_int (am_cons (em_v 0) (am_nil))) (em_int))))))
def m__law_word : M Fl := mSeq (mSet 2 (mBin pAdd (mK (.int 1)) (mCallI 0 f__law_pick [mVar 1]))) (mRet (mBinS pJoin (mK (.str "")) (mLc [3] (mRng1 (mVar 2)) (gN 3) mYes (mCall f__law_letter [mCallI 0 f__law_pick [mK (.int 26)]]))))
def f__law_word : PV → List PV → Option (PV × RO) := runI N__law_word.length m__law_word
theorem ok__law_word (T : Txt K mg cl fa fd) : FnOk P w K mg base (L2N.CX P w) 2 (fa 32) (fd 32) ["source", "longest"] (spI K cl 2 f__law_word) :=
  fnI (k := 1) (m := m__law_word) T.F__law_word sc__law_word (fun cdv A outer s H E hr => by
    have hu := hu64 hr
    have tk : L2N.Takes (cxOf (L2N.CX P w) P w K mg base N__law_word "_law_word" (defScope s__law_word) (fa 32) cdv A outer s H E) (fun c d _ H' => E c d H') := L2N.takes_of rfl rfl rfl rfl
    exact (sm_cons (sm_set (i := 2) sc__law_word.nd rfl (by first | exact Or.inl rfl | exact Or.inr rfl) (em_op br_add (em_int) (em_callI tk (ok__law_pick T) (hr.mono (by decide)) T.g__law_pick T.k__law_pick T.b__law_pick (pv 0) (am_cons (em_v 1) (am_nil)))))
      (sm_one (sm_ret (em_join (em_str) (LcM.em (LcM.mk (own := [("k", 3)]) (im_rng1 (em_v 2) T.z_range) (blkOk_by (own := [("k", 3)]) (N := N__law_word) (sc := defScope s__law_word) (by decide +kernel)) (blk_tg (fun _ _ _ _ _ => pg_name (i := 3) sc__law_word.nd rfl (by first | exact Or.inl rfl | exact Or.inr rfl)) (does_gN) (gin_N (by decide))) (blk_ts fun _ _ _ _ _ => ts_nil) (blk_em fun _ _ _ _ _ => em_call takes_W0 (ok__law_letter T) (hr.mono (by first | decide | omega)) T.g__law_letter T.k__law_letter T.b__law_letter (am_cons (em_callI takes_W0 (ok__law_pick T) (hr.mono (by decide)) T.g__law_pick T.k__law_pick T.b__law_pick (pv 0) (am_cons (em_int) (am_nil))) (am_nil)))) rfl sc__law_word.nd))))))
def m__law_words : M Fl := mSeq (mSetO 4 (mLst [])) (mSeq (mFor (mRng1 (mVar 1)) (gN 5) (mSeq (mSet 6 (mCallI 0 f__law_word [mVar 2])) (mSeq (mSet 7 (mBin pAdd (mBin pAdd (mCBV pLen 3) (mCBV pLen 4)) (mK (.int 1)))) (mSeq (mSet 8 (mBin pAdd (mLst [mVar 6]) (mLc [9] (mRng1 (mVar 7)) (gN 9) mYes (mBin pAdd (mBin pAdd (mSl (mVar 6) (mNoB) (mBd (mBin pSub (mVar 2) (mK (.int 1))))) (mCall f__law_letter [mBin pDiv (mVar 9) (mK (.int 26))])) (mCall f__law_letter [mVar 9]))))) (mApp 4 (mBin pIx (mLc [10] (mIterA (mVar 8)) (gN 10) (mAnd (mTest (mBin pHasNot (mVar 10) (mVar 3))) (mTest (mBinR pHasNot (mVar 10) 4))) (mVar 10)) (mK (.int 0)))))))) (mRet (mVar 4)))
def f__law_words : PV → List PV → Option (PV × RO) := runI N__law_words.length m__law_words
theorem ok__law_words (T : Txt K mg cl fa fd) : FnOk P w K mg base (L2N.CX P w) 3 (fa 33) (fd 33) ["source", "many", "longest", "spent"] (spI K cl 4 f__law_words) :=
  fnI (k := 2) (m := m__law_words) T.F__law_words sc__law_words (fun cdv A outer s H E hr => by
    have hu := hu64 hr
    have tk : L2N.Takes (cxOf (L2N.CX P w) P w K mg base N__law_words "_law_words" (defScope s__law_words) (fa 33) cdv A outer s H E) (fun c d _ H' => E c d H') := L2N.takes_of rfl rfl rfl rfl
    exact (sm_cons (sm_setO (i := 4) sc__law_words.nd rfl (by first | exact Or.inl rfl | exact Or.inr rfl) (fm_lst (am_nil)))
      (sm_cons (sm_for (passes_of rfl) rfl (im_rng1 (em_v 1) T.z_range) (gm_of (pg_name (i := 5) sc__law_words.nd rfl (by first | exact Or.inl rfl | exact Or.inr rfl)) (does_gN)) (sm_cons (sm_set (i := 6) sc__law_words.nd rfl (by first | exact Or.inl rfl | exact Or.inr rfl) (em_callI tk (ok__law_word T) (hr.mono (by decide)) T.g__law_word T.k__law_word T.b__law_word (pv 0) (am_cons (em_v 2) (am_nil))))
      (sm_cons (sm_set (i := 7) sc__law_words.nd rfl (by first | exact Or.inl rfl | exact Or.inr rfl) (em_op br_add (em_op br_add (em_cbV cr_lenA cs_len T.z_len (pv 3)) (em_cbV cr_lenA cs_len T.z_len (pv 4))) (em_int)))
      (sm_cons (sm_set (i := 8) sc__law_words.nd rfl (by first | exact Or.inl rfl | exact Or.inr rfl) (em_op br_add (em_lst (am_cons (em_v 6) (am_nil))) (LcM.em (LcM.mk (own := [("j", 9)]) (im_rng1 (em_v 7) T.z_range) (blkOk_by (own := [("j", 9)]) (N := N__law_words) (sc := defScope s__law_words) (by decide +kernel)) (blk_tg (fun _ _ _ _ _ => pg_name (i := 9) sc__law_words.nd rfl (by first | exact Or.inl rfl | exact Or.inr rfl)) (does_gN) (gin_N (by decide))) (blk_ts fun _ _ _ _ _ => ts_nil) (blk_em fun _ _ _ _ _ => em_op br_add (em_op br_add (em_sl (em_v 6) (om_none) (om_some (em_op br_sub (em_v 2) (em_int)))) (em_call takes_W0 (ok__law_letter T) (hr.mono (by first | decide | omega)) T.g__law_letter T.k__law_letter T.b__law_letter (am_cons (em_op br_div (em_v 9) (em_int)) (am_nil)))) (em_call takes_W0 (ok__law_letter T) (hr.mono (by first | decide | omega)) T.g__law_letter T.k__law_letter T.b__law_letter (am_cons (em_v 9) (am_nil))))) rfl sc__law_words.nd)))
      (sm_one (sm_app (pv 4) (em_ix hu (LcM.em (LcM.mk (own := [("one", 10)]) (im_any (em_v 8)) (blkOk_by (own := [("one", 10)]) (N := N__law_words) (sc := defScope s__law_words) (by decide +kernel)) (blk_tg (fun _ _ _ _ _ => pg_name (i := 10) sc__law_words.nd rfl (by first | exact Or.inl rfl | exact Or.inr rfl)) (does_gN) (gin_N (by decide))) (blk_ts fun _ _ _ _ _ => ts_one (tm_w (wm_and (tm_cmp (br_hasNot hu) (em_v 10) (em_v 3) rfl) (wm_and1 (tm_cmpRt (br_hasNot hu) (em_v 10) (pv 4) rfl))))) (blk_em fun _ _ _ _ _ => em_v 10)) rfl sc__law_words.nd) (em_int))))))))
      (sm_one (sm_ret (em_v 4))))))
def m__law_lists (rec : List PV → Option RO) : M Fl := mRet (mIfE (mTru (mIsa (ansT noOc "tuple") (mVar 0))) (mLc [1] (mIterA (mVar 0)) (gN 1) mYes (mCall rec [mVar 1])) (mVar 0))
def fd__law_lists : Nat → List PV → Option RO
  | 0 => fun _ => none
  | d + 1 => runP N__law_lists.length (m__law_lists (fd__law_lists d))
def f__law_lists : List PV → Option RO := fd__law_lists 8
theorem okd__law_lists (T : Txt K mg cl fa fd) : ∀ d, FnOk P w K mg base (L2N.CX P w) (0 + d) (fa 34) (fd 34) ["thing"] (spP K cl 1 (fd__law_lists d))
  | 0 => fn_none
  | d + 1 => have ih := okd__law_lists T d
    fnP (k := 0 + d) (m := m__law_lists (fd__law_lists d)) T.F__law_lists sc__law_lists (fun cdv A outer s H E hr => by
    have hu := hu64 hr
    have tk : L2N.Takes (cxOf (L2N.CX P w) P w K mg base N__law_lists "_law_lists" (defScope s__law_lists) (fa 34) cdv A outer s H E) (fun c d _ H' => E c d H') := L2N.takes_of rfl rfl rfl rfl
    exact (sm_one (sm_ret (em_ife (tm_tru (em_isa (isa_T0) (.ty _) T.z_isinstance (em_v 0) (pe_bltn (x := "tuple") (by rfl) T.z_tuple (v := .ty "tuple") (by rfl) rfl))) (LcM.em (LcM.mk (own := [("part", 1)]) (im_any (em_v 0)) (blkOk_by (own := [("part", 1)]) (N := N__law_lists) (sc := defScope s__law_lists) (by decide +kernel)) (blk_tg (fun _ _ _ _ _ => pg_name (i := 1) sc__law_lists.nd rfl (by first | exact Or.inl rfl | exact Or.inr rfl)) (does_gN) (gin_N (by decide))) (blk_ts fun _ _ _ _ _ => ts_nil) (blk_em fun _ _ _ _ _ => em_call takes_W0 (ih) (hr.mono (by first | decide | omega)) T.g__law_lists T.k__law_lists T.b__law_lists (am_cons (em_v 1) (am_nil)))) rfl sc__law_lists.nd) (em_v 0)))))
theorem ok__law_lists (T : Txt K mg cl fa fd) : FnOk P w K mg base (L2N.CX P w) 8 (fa 34) (fd 34) ["thing"] (spP K cl 1 f__law_lists) := okd__law_lists T 8
def m__law_same (rec : List PV → Option RO) : M Fl := mSeq (mIf (mTest (mIsN false (mVar 1))) (mRet (mIsN false (mVar 0))) (mNx)) (mSeq (mIf (mTru (mIsa (ansT noOc "bool") (mVar 1))) (mRet (mB (mAnd (mTest (mIsa (ansT noOc "bool") (mVar 0))) (mTest (mBin pEq (mVar 0) (mVar 1)))))) (mNx)) (mSeq (mIf (mTru (mIsa (ansT noOc "tuple") (mVar 1))) (mSeq (mIf (mOr (mNot (mTru (mIsa (ansT noOc "tuple") (mVar 0)))) (mTest (mBin pNe (mCBV pLen 0) (mCBV pLen 1)))) (mRet (mK (.bl false))) (mNx)) (mRet (mCB pAll [mLc [2] (mRng1 (mCBV pLen 1)) (gN 2) mYes (mCall rec [mIxV 0 (mVar 2), mIxV 1 (mVar 2)])]))) (mNx)) (mSeq (mIf (mTru (mIsa (ansT noOc "int") (mVar 1))) (mRet (mB (mAnd (mTest (mIsa (ansT noOc "int") (mVar 0))) (mAnd (mTest (mB (mNot (mTest (mIsa (ansT noOc "bool") (mVar 0)))))) (mTest (mBin pEq (mVar 0) (mVar 1))))))) (mNx)) (mRet (mB (mAnd (mTest (mIsa (ansT noOc "str") (mVar 0))) (mTest (mBin pEq (mVar 0) (mVar 1)))))))))
def fd__law_same : Nat → List PV → Option RO
  | 0 => fun _ => none
  | d + 1 => runP N__law_same.length (m__law_same (fd__law_same d))
def f__law_same : List PV → Option RO := fd__law_same 8
theorem okd__law_same (T : Txt K mg cl fa fd) : ∀ d, FnOk P w K mg base (L2N.CX P w) (0 + d) (fa 35) (fd 35) ["actual", "due"] (spP K cl 2 (fd__law_same d))
  | 0 => fn_none
  | d + 1 => have ih := okd__law_same T d
    fnP (k := 0 + d) (m := m__law_same (fd__law_same d)) T.F__law_same sc__law_same (fun cdv A outer s H E hr => by
    have hu := hu64 hr
    have tk : L2N.Takes (cxOf (L2N.CX P w) P w K mg base N__law_same "_law_same" (defScope s__law_same) (fa 35) cdv A outer s H E) (fun c d _ H' => E c d H') := L2N.takes_of rfl rfl rfl rfl
    exact (sm_cons (sm_if (tm_isN (em_v 1)) (sm_one (sm_ret (em_isN (em_v 0)))) (sm_nil))
      (sm_cons (sm_if (tm_tru (em_isa (isa_T0) (.ty _) T.z_isinstance (em_v 1) (pe_bltn (x := "bool") (by rfl) T.z_bool (v := .ty "bool") (by rfl) rfl))) (sm_one (sm_ret (em_and (em_isa (isa_T0) (.ty _) T.z_isinstance (em_v 0) (pe_bltn (x := "bool") (by rfl) T.z_bool (v := .ty "bool") (by rfl) rfl)) (em_one (em_cmp (br_eq hu) (em_v 0) (em_v 1) (nomark _)))))) (sm_nil))
      (sm_cons (sm_if (tm_tru (em_isa (isa_T0) (.ty _) T.z_isinstance (em_v 1) (pe_bltn (x := "tuple") (by rfl) T.z_tuple (v := .ty "tuple") (by rfl) rfl))) (sm_cons (sm_if (tm_w (wm_or (tm_not (tm_tru (em_isa (isa_T0) (.ty _) T.z_isinstance (em_v 0) (pe_bltn (x := "tuple") (by rfl) T.z_tuple (v := .ty "tuple") (by rfl) rfl)))) (wm_or1 (tm_cmp (br_ne hu) (em_cbV cr_lenA cs_len T.z_len (pv 0)) (em_cbV cr_lenA cs_len T.z_len (pv 1)) (nomark _))))) (sm_one (sm_ret (em_bl))) (sm_nil))
      (sm_one (sm_ret (em_cb (cr_all rfl) cs_all T.z_all (am_cons (LcM.em (LcM.mk (own := [("k", 2)]) (im_rng1 (em_cbV cr_lenA cs_len T.z_len (pv 1)) T.z_range) (blkOk_by (own := [("k", 2)]) (N := N__law_same) (sc := defScope s__law_same) (by decide +kernel)) (blk_tg (fun _ _ _ _ _ => pg_name (i := 2) sc__law_same.nd rfl (by first | exact Or.inl rfl | exact Or.inr rfl)) (does_gN) (gin_N (by decide))) (blk_ts fun _ _ _ _ _ => ts_nil) (blk_em fun _ _ _ _ _ => em_call takes_W0 (ih) (hr.mono (by first | decide | omega)) T.g__law_same T.k__law_same T.b__law_same (am_cons (em_ixV hu (pv 0) (em_v 2)) (am_cons (em_ixV hu (pv 1) (em_v 2)) (am_nil))))) rfl sc__law_same.nd) (am_nil)))))) (sm_nil))
      (sm_cons (sm_if (tm_tru (em_isa (isa_T0) (.ty _) T.z_isinstance (em_v 1) (pe_bltn (x := "int") (by rfl) T.z_int (v := .ty "int") (by rfl) rfl))) (sm_one (sm_ret (em_and (em_isa (isa_T0) (.ty _) T.z_isinstance (em_v 0) (pe_bltn (x := "int") (by rfl) T.z_int (v := .ty "int") (by rfl) rfl)) (em_and (em_not (em_isa (isa_T0) (.ty _) T.z_isinstance (em_v 0) (pe_bltn (x := "bool") (by rfl) T.z_bool (v := .ty "bool") (by rfl) rfl))) (em_one (em_cmp (br_eq hu) (em_v 0) (em_v 1) (nomark _))))))) (sm_nil))
      (sm_one (sm_ret (em_and (em_isa (isa_T0) (.ty _) T.z_isinstance (em_v 0) (pe_bltn (x := "str") (by rfl) T.z_str (v := .ty "str") (by rfl) rfl)) (em_one (em_cmp (br_eq hu) (em_v 0) (em_v 1) (nomark _)))))))))))
theorem ok__law_same (T : Txt K mg cl fa fd) : FnOk P w K mg base (L2N.CX P w) 8 (fa 35) (fd 35) ["actual", "due"] (spP K cl 2 f__law_same) := okd__law_same T 8
def m__law_is_word : M Fl := mRet (mB (mAnd (mTest (mChain pLeI pLeI (mK (.int 1)) (mCBV pLen 0) (mK (.int 8)))) (mTest (mCB pAll [mLc [1] (mIterA (mVar 0)) (gN 1) mYes (mBin pHas (mVar 1) (mK (.str "abcdefghijklmnopqrstuvwxyz")))]))))
def f__law_is_word : List PV → Option RO := runP N__law_is_word.length m__law_is_word
theorem ok__law_is_word (T : Txt K mg cl fa fd) : FnOk P w K mg base (L2N.CX P w) 1 (fa 36) (fd 36) ["text"] (spP K cl 1 f__law_is_word) :=
  fnP (k := 0) (m := m__law_is_word) T.F__law_is_word sc__law_is_word (fun cdv A outer s H E hr => by
    have hu := hu64 hr
    have tk : L2N.Takes (cxOf (L2N.CX P w) P w K mg base N__law_is_word "_law_is_word" (defScope s__law_is_word) (fa 36) cdv A outer s H E) (fun c d _ H' => E c d H') := L2N.takes_of rfl rfl rfl rfl
    exact (sm_one (sm_ret (em_and (em_chain br_le br_le (em_int) (em_cbV cr_lenA cs_len T.z_len (pv 0)) (em_int)) (em_one (em_cb (cr_all rfl) cs_all T.z_all (am_cons (LcM.em (LcM.mk (own := [("letter", 1)]) (im_any (em_v 0)) (blkOk_by (own := [("letter", 1)]) (N := N__law_is_word) (sc := defScope s__law_is_word) (by decide +kernel)) (blk_tg (fun _ _ _ _ _ => pg_name (i := 1) sc__law_is_word.nd rfl (by first | exact Or.inl rfl | exact Or.inr rfl)) (does_gN) (gin_N (by decide))) (blk_ts fun _ _ _ _ _ => ts_nil) (blk_em fun _ _ _ _ _ => em_cmp (br_has hu) (em_v 1) (em_str) rfl)) rfl sc__law_is_word.nd) (am_nil))))))))
def m__law_reading_line : M Fl := mRet (mBinS pJoin (mK (.str " ")) (mBin pAdd (mLst [mK (.str "read")]) (mLc [1] (mIterA (mVar 0)) (gN 1) mYes (mBin pAdd (mIxV 1 (mK (.int 0))) (mBin pIx (mLst [mK (.str ""), mK (.str ":1"), mK (.str ":2")]) (mIxV 1 (mK (.int 1))))))))
def f__law_reading_line : List PV → Option RO := runP N__law_reading_line.length m__law_reading_line
theorem ok__law_reading_line (T : Txt K mg cl fa fd) : FnOk P w K mg base (L2N.CX P w) 1 (fa 37) (fd 37) ["reading"] (spP K cl 1 f__law_reading_line) :=
  fnP (k := 0) (m := m__law_reading_line) T.F__law_reading_line sc__law_reading_line (fun cdv A outer s H E hr => by
    have hu := hu64 hr
    have tk : L2N.Takes (cxOf (L2N.CX P w) P w K mg base N__law_reading_line "_law_reading_line" (defScope s__law_reading_line) (fa 37) cdv A outer s H E) (fun c d _ H' => E c d H') := L2N.takes_of rfl rfl rfl rfl
    exact (sm_one (sm_ret (em_join (em_str) (em_op br_add (em_lst (am_cons (em_str) (am_nil))) (LcM.em (LcM.mk (own := [("pair", 1)]) (im_any (em_v 0)) (blkOk_by (own := [("pair", 1)]) (N := N__law_reading_line) (sc := defScope s__law_reading_line) (by decide +kernel)) (blk_tg (fun _ _ _ _ _ => pg_name (i := 1) sc__law_reading_line.nd rfl (by first | exact Or.inl rfl | exact Or.inr rfl)) (does_gN) (gin_N (by decide))) (blk_ts fun _ _ _ _ _ => ts_nil) (blk_em fun _ _ _ _ _ => em_op br_add (em_ixV hu (pv 1) (em_int)) (em_ix hu (em_lst (am_cons (em_str) (am_cons (em_str) (am_cons (em_str) (am_nil))))) (em_ixV hu (pv 1) (em_int))))) rfl sc__law_reading_line.nd))))))
def m__law_pair_of : M Fl := mSeq (mSet 1 (mBinS pSplit (mVar 0) (mK (.str ":")))) (mSeq (mIf (mOr (mTest (mBin pGtI (mCBV pLen 1) (mK (.int 2)))) (mNot (mTru (mCall f__law_is_word [mIxV 1 (mK (.int 0))])))) (mRet (mK .non)) (mNx)) (mSeq (mIf (mTest (mBin pEq (mCBV pLen 1) (mK (.int 1)))) (mRet (mTup [mVar 0, mK (.int 0)])) (mNx)) (mRet (mIfE (mTest (mBin pHas (mIxV 1 (mK (.int 1))) (mTup [mK (.str "1"), mK (.str "2")]))) (mTup [mIxV 1 (mK (.int 0)), mIndexOf (mLst [mK (.str "0"), mK (.str "1"), mK (.str "2")]) (mIxV 1 (mK (.int 1)))]) (mK .non)))))
def f__law_pair_of : List PV → Option RO := runP N__law_pair_of.length m__law_pair_of
theorem ok__law_pair_of (T : Txt K mg cl fa fd) : FnOk P w K mg base (L2N.CX P w) 2 (fa 38) (fd 38) ["text"] (spP K cl 1 f__law_pair_of) :=
  fnP (k := 1) (m := m__law_pair_of) T.F__law_pair_of sc__law_pair_of (fun cdv A outer s H E hr => by
    have hu := hu64 hr
    have tk : L2N.Takes (cxOf (L2N.CX P w) P w K mg base N__law_pair_of "_law_pair_of" (defScope s__law_pair_of) (fa 38) cdv A outer s H E) (fun c d _ H' => E c d H') := L2N.takes_of rfl rfl rfl rfl
    exact (sm_cons (sm_set (i := 1) sc__law_pair_of.nd rfl (by first | exact Or.inl rfl | exact Or.inr rfl) (em_split (em_v 0) (em_str)))
      (sm_cons (sm_if (tm_w (wm_or (tm_cmp br_gt (em_cbV cr_lenA cs_len T.z_len (pv 1)) (em_int) (nomark _)) (wm_or1 (tm_not (tm_tru (em_call tk (ok__law_is_word T) (hr.mono (by first | decide | omega)) T.g__law_is_word T.k__law_is_word T.b__law_is_word (am_cons (em_ixV hu (pv 1) (em_int)) (am_nil)))))))) (sm_one (sm_ret (em_non))) (sm_nil))
      (sm_cons (sm_if (tm_cmp (br_eq hu) (em_cbV cr_lenA cs_len T.z_len (pv 1)) (em_int) (nomark _)) (sm_one (sm_ret (em_tup (am_cons (em_v 0) (am_cons (em_int) (am_nil)))))) (sm_nil))
      (sm_one (sm_ret (em_ife (tm_cmp (br_has hu) (em_ixV hu (pv 1) (em_int)) (em_tup (am_cons (em_str) (am_cons (em_str) (am_nil)))) rfl) (em_tup (am_cons (em_ixV hu (pv 1) (em_int)) (am_cons (em_indexOf hu (em_lst (am_cons (em_str) (am_cons (em_str) (am_cons (em_str) (am_nil))))) (em_ixV hu (pv 1) (em_int))) (am_nil)))) (em_non))))))))
def m__law_read : M Fl := mSeq (mIf (mTest (mBin pEq (mCBV pLen 0) (mK (.int 0)))) (mRet (mTup [mK (.str "BadLine"), mK (.int 0), mK (.int 0)])) (mNx)) (mSeq (mSetO 1 (mLst [])) (mSeq (mFor (mRng1 (mCBV pLen 0)) (gN 2) (mSeq (mIf (mOr (mTest (mBin pEq (mVar 2) (mK (.int 6)))) (mNot (mTru (mIsa (ansT noOc "str") (mIxV 0 (mVar 2)))))) (mRet (mTup [mK (.str "BadLine"), mVar 2, mK (.int 0)])) (mNx)) (mSeq (mSet 3 (mBinS pSplit (mIxV 0 (mVar 2)) (mK (.str " ")))) (mSeq (mIf (mTest (mBin pNe (mIxV 3 (mK (.int 0))) (mK (.str "read")))) (mRet (mTup [mK (.str "BadLine"), mVar 2, mK (.int 0)])) (mNx)) (mSeq (mSet 4 (mLc [5] (mIterA (mSl (mVar 3) (mBd (mK (.int 1))) (mNoB))) (gN 5) mYes (mCall f__law_pair_of [mVar 5]))) (mSeq (mIf (mTest (mBin pHas (mK .non) (mVar 4))) (mRet (mTup [mK (.str "BadLine"), mVar 2, mBin pAdd (mK (.int 1)) (mIndexOf (mVar 4) (mK .non))])) (mNx)) (mApp 1 (mCB pTuple [mVar 4])))))))) (mRet (mTup [mK (.str "told"), mCB pTuple [mVar 1]]))))
def f__law_read : List PV → Option RO := runP N__law_read.length m__law_read
theorem ok__law_read (T : Txt K mg cl fa fd) : FnOk P w K mg base (L2N.CX P w) 3 (fa 39) (fd 39) ["lines"] (spP K cl 1 f__law_read) :=
  fnP (k := 2) (m := m__law_read) T.F__law_read sc__law_read (fun cdv A outer s H E hr => by
    have hu := hu64 hr
    have tk : L2N.Takes (cxOf (L2N.CX P w) P w K mg base N__law_read "_law_read" (defScope s__law_read) (fa 39) cdv A outer s H E) (fun c d _ H' => E c d H') := L2N.takes_of rfl rfl rfl rfl
    exact (sm_cons (sm_if (tm_cmp (br_eq hu) (em_cbV cr_lenA cs_len T.z_len (pv 0)) (em_int) (nomark _)) (sm_one (sm_ret (em_tup (am_cons (em_str) (am_cons (em_int) (am_cons (em_int) (am_nil))))))) (sm_nil))
      (sm_cons (sm_setO (i := 1) sc__law_read.nd rfl (by first | exact Or.inl rfl | exact Or.inr rfl) (fm_lst (am_nil)))
      (sm_cons (sm_for (passes_of rfl) rfl (im_rng1 (em_cbV cr_lenA cs_len T.z_len (pv 0)) T.z_range) (gm_of (pg_name (i := 2) sc__law_read.nd rfl (by first | exact Or.inl rfl | exact Or.inr rfl)) (does_gN)) (sm_cons (sm_if (tm_w (wm_or (tm_cmp (br_eq hu) (em_v 2) (em_int) (nomark _)) (wm_or1 (tm_not (tm_tru (em_isa (isa_T0) (.ty _) T.z_isinstance (em_ixV hu (pv 0) (em_v 2)) (pe_bltn (x := "str") (by rfl) T.z_str (v := .ty "str") (by rfl) rfl))))))) (sm_one (sm_ret (em_tup (am_cons (em_str) (am_cons (em_v 2) (am_cons (em_int) (am_nil))))))) (sm_nil))
      (sm_cons (sm_set (i := 3) sc__law_read.nd rfl (by first | exact Or.inl rfl | exact Or.inr rfl) (em_split (em_ixV hu (pv 0) (em_v 2)) (em_str)))
      (sm_cons (sm_if (tm_cmp (br_ne hu) (em_ixV hu (pv 3) (em_int)) (em_str) (nomark _)) (sm_one (sm_ret (em_tup (am_cons (em_str) (am_cons (em_v 2) (am_cons (em_int) (am_nil))))))) (sm_nil))
      (sm_cons (LcM.set (i := 4) (LcM.mk (own := [("word", 5)]) (im_any (em_sl (em_v 3) (om_some (em_int)) (om_none))) (blkOk_by (own := [("word", 5)]) (N := N__law_read) (sc := defScope s__law_read) (by decide +kernel)) (blk_tg (fun _ _ _ _ _ => pg_name (i := 5) sc__law_read.nd rfl (by first | exact Or.inl rfl | exact Or.inr rfl)) (does_gN) (gin_N (by decide))) (blk_ts fun _ _ _ _ _ => ts_nil) (blk_em fun _ _ _ _ _ => em_call takes_W0 (ok__law_pair_of T) (hr.mono (by first | decide | omega)) T.g__law_pair_of T.k__law_pair_of T.b__law_pair_of (am_cons (em_v 5) (am_nil)))) rfl sc__law_read.nd rfl rfl (sw_true rfl rfl rfl (by decide +kernel)))
      (sm_cons (sm_if (tm_cmp (br_has hu) (em_non) (em_v 4) rfl) (sm_one (sm_ret (em_tup (am_cons (em_str) (am_cons (em_v 2) (am_cons (em_op br_add (em_int) (em_indexOf hu (em_v 4) (em_non))) (am_nil))))))) (sm_nil))
      (sm_one (sm_app (pv 1) (em_ct cr_tuple cs_tuple T.z_tuple (am_cons (em_v 4) (am_nil)))))))))))
      (sm_one (sm_ret (em_tup (am_cons (em_str) (am_cons (em_ct cr_tuple cs_tuple T.z_tuple (am_cons (em_v 1) (am_nil))) (am_nil))))))))))
def m__law_error : Addr → Addr → Nat → M Fl := fun a d c => mSeq (mIf (mOr (mNot (mTru (mIsE 0 a d c (sub_BadLine c)))) (mNot (mTru (mIsE 0 a d c (sub_ValueError c))))) (mRet (mTup [mK (.str "other")])) (mNx)) (mSeq (mIf (mOr (mTru (mIsE 0 a d c (sub_BadWork c))) (mTru (mIsE 0 a d c (sub_BadReading c)))) (mRet (mTup [mK (.str "other")])) (mNx)) (mRet (mTup [mK (.str "BadLine"), mXf 0 a d c "line", mXf 0 a d c "word"])))
def f__law_error : Addr → Addr → Nat → List (Str × PV) → Option PV := runE N__law_error.length m__law_error
theorem ok__law_error (T : Txt K mg cl fa fd) : FnE P w K mg base (L2N.CX P w) 1 (fa 40) (fd 40) ["raised"] (spE K cl [5] f__law_error) :=
  fnE (k := 0) (cs := [5]) (m := m__law_error) T.F__law_error sc__law_error (fun cdv A outer s H E a d oe c hcs hz hfl hr => by
    have hu := huE hr
    simp only [List.mem_cons, List.not_mem_nil, or_false] at hcs
    rcases hcs with rfl
    · exact (sm_cons (sm_if (tm_w (wm_or (tm_not (tm_tru (em_isEP (c := 5) (by exact List.mem_cons_self) (T.xc5) hz hfl (T.kt5_BadLine) (.own _) T.z_isinstance (pv 0) (pe_glob (v := .ref (cl 5)) (by rfl) T.g_BadLine rfl)))) (wm_or1 (tm_not (tm_tru (em_isEP (c := 5) (by exact List.mem_cons_self) (T.xc5) hz hfl (T.kt5_ValueError) (.ty _) T.z_isinstance (pv 0) (pe_bltn rfl T.z_ValueError (v := .ty "ValueError") (by rfl) rfl))))))) (sm_one (sm_ret (em_tup (hl := Nat.le_of_ble_eq_true rfl) (am_cons (em_str) (am_nil))))) (sm_nil))
      (sm_cons (sm_if (tm_w (wm_or (tm_tru (em_isEP (c := 5) (by exact List.mem_cons_self) (T.xc5) hz hfl (T.kt5_BadWork) (.own _) T.z_isinstance (pv 0) (pe_glob (v := .ref (cl 13)) (by rfl) T.g_BadWork rfl))) (wm_or1 (tm_tru (em_isEP (c := 5) (by exact List.mem_cons_self) (T.xc5) hz hfl (T.kt5_BadReading) (.own _) T.z_isinstance (pv 0) (pe_glob (v := .ref (cl 12)) (by rfl) T.g_BadReading rfl)))))) (sm_one (sm_ret (em_tup (hl := Nat.le_of_ble_eq_true rfl) (am_cons (em_str) (am_nil))))) (sm_nil))
      (sm_one (sm_ret (em_tup (hl := Nat.le_of_ble_eq_true rfl) (am_cons (em_str) (am_cons (em_xfP (c := 5) (by exact List.mem_cons_self) (T.xc5) T.xn5_line hz hfl (pv 0)) (am_cons (em_xfP (c := 5) (by exact List.mem_cons_self) (T.xc5) T.xn5_word hz hfl (pv 0)) (am_nil))))))))))
noncomputable def m__law_asked_work : M Fl := mSeq (mTry [5] (fun c => some (sub_AcrossError c)) 3 (mSet 2 (mTup [mK (.str "told"), mCall f_read_work [mVar 0]])) (fun a d c => mSet 2 (mCallE 3 a d c f__law_error))) (mRet (mCall f__law_same [mVar 2, mVar 1]))
noncomputable def f__law_asked_work : List PV → Option RO := runP N__law_asked_work.length m__law_asked_work
theorem ok__law_asked_work (T : Txt K mg cl fa fd) : FnOk P w K mg base (L2N.CX P w) 9 (fa 41) (fd 41) ["lines", "due"] (spP K cl 2 f__law_asked_work) :=
  fnP (k := 8) (m := m__law_asked_work) T.F__law_asked_work sc__law_asked_work (fun cdv A outer s H E hr => by
    have hu := hu64 hr
    have tk : L2N.Takes (cxOf (L2N.CX P w) P w K mg base N__law_asked_work "_law_asked_work" (defScope s__law_asked_work) (fa 41) cdv A outer s H E) (fun c d _ H' => E c d H') := L2N.takes_of rfl rfl rfl rfl
    exact (sm_cons (sm_try (i := 3) (cs := [5]) (sub := fun c => some (sub_AcrossError c)) rfl rfl sc__law_asked_work.nd rfl rfl (by exact ⟨rfl, by decide, .inl T.g_AcrossError⟩) tk (by
        intro c hc b hb
        simp only [List.mem_cons, List.not_mem_nil, or_false] at hc
        rcases hc with rfl
        · cases hb; exact T.xm5_AcrossError) (fun _ pn xe tk hp => by exact (sm_one (sm_set (i := 2) sc__law_asked_work.nd rfl (by first | exact Or.inl rfl | exact Or.inr rfl) (em_tup (am_cons (em_str) (am_cons (em_call tk (ok_read_work T) (hr.mono (by first | decide | omega)) T.g_read_work T.k_read_work T.b_read_work (am_cons (em_v 0) (am_nil))) (am_nil)))))))
      (fun a d oe c pn hcs hz hfl => by
        simp only [List.mem_cons, List.not_mem_nil, or_false] at hcs
        rcases hcs with rfl
        · exact (sm_one (sm_set (i := 2) sc__law_asked_work.nd rfl (by first | exact Or.inl rfl | exact Or.inr rfl) (em_callE (c := 5) (ok__law_error T) (hr.mono (by first | decide | omega)) T.g__law_error T.k__law_error T.b__law_error (by decide) hz hfl (pv 3))))))
      (sm_one (sm_ret (em_call tk (ok__law_same T) (hr.mono (by first | decide | omega)) T.g__law_same T.k__law_same T.b__law_same (am_cons (em_v 2) (am_cons (em_v 1) (am_nil))))))))
noncomputable def m__law_asked_line : M Fl := mSeq (mSet 1 (mCall f__law_read [mLst [mVar 0]])) (mSeq (mIf (mTest (mBin pEq (mIxV 1 (mK (.int 0))) (mK (.str "told")))) (mSet 1 (mTup [mK (.str "told"), mBin pIx (mIxV 1 (mK (.int 1))) (mK (.int 0))])) (mNx)) (mSeq (mTry [5] (fun c => some (sub_AcrossError c)) 3 (mSet 2 (mTup [mK (.str "told"), mCall f_read_reading [mVar 0]])) (fun a d c => mSet 2 (mCallE 3 a d c f__law_error))) (mRet (mCall f__law_same [mVar 2, mVar 1]))))
noncomputable def f__law_asked_line : List PV → Option RO := runP N__law_asked_line.length m__law_asked_line
theorem ok__law_asked_line (T : Txt K mg cl fa fd) : FnOk P w K mg base (L2N.CX P w) 9 (fa 42) (fd 42) ["line"] (spP K cl 1 f__law_asked_line) :=
  fnP (k := 8) (m := m__law_asked_line) T.F__law_asked_line sc__law_asked_line (fun cdv A outer s H E hr => by
    have hu := hu64 hr
    have tk : L2N.Takes (cxOf (L2N.CX P w) P w K mg base N__law_asked_line "_law_asked_line" (defScope s__law_asked_line) (fa 42) cdv A outer s H E) (fun c d _ H' => E c d H') := L2N.takes_of rfl rfl rfl rfl
    exact (sm_cons (sm_set (i := 1) sc__law_asked_line.nd rfl (by first | exact Or.inl rfl | exact Or.inr rfl) (em_call tk (ok__law_read T) (hr.mono (by first | decide | omega)) T.g__law_read T.k__law_read T.b__law_read (am_cons (em_lst (am_cons (em_v 0) (am_nil))) (am_nil))))
      (sm_cons (sm_if (tm_cmp (br_eq hu) (em_ixV hu (pv 1) (em_int)) (em_str) (nomark _)) (sm_one (sm_set (i := 1) sc__law_asked_line.nd rfl (by first | exact Or.inl rfl | exact Or.inr rfl) (em_tup (am_cons (em_str) (am_cons (em_ix hu (em_ixV hu (pv 1) (em_int)) (em_int)) (am_nil)))))) (sm_nil))
      (sm_cons (sm_try (i := 3) (cs := [5]) (sub := fun c => some (sub_AcrossError c)) rfl rfl sc__law_asked_line.nd rfl rfl (by exact ⟨rfl, by decide, .inl T.g_AcrossError⟩) tk (by
        intro c hc b hb
        simp only [List.mem_cons, List.not_mem_nil, or_false] at hc
        rcases hc with rfl
        · cases hb; exact T.xm5_AcrossError) (fun _ pn xe tk hp => by exact (sm_one (sm_set (i := 2) sc__law_asked_line.nd rfl (by first | exact Or.inl rfl | exact Or.inr rfl) (em_tup (am_cons (em_str) (am_cons (em_call tk (ok_read_reading T) (hr.mono (by first | decide | omega)) T.g_read_reading T.k_read_reading T.b_read_reading (am_cons (em_v 0) (am_nil))) (am_nil)))))))
      (fun a d oe c pn hcs hz hfl => by
        simp only [List.mem_cons, List.not_mem_nil, or_false] at hcs
        rcases hcs with rfl
        · exact (sm_one (sm_set (i := 2) sc__law_asked_line.nd rfl (by first | exact Or.inl rfl | exact Or.inr rfl) (em_callE (c := 5) (ok__law_error T) (hr.mono (by first | decide | omega)) T.g__law_error T.k__law_error T.b__law_error (by decide) hz hfl (pv 3))))))
      (sm_one (sm_ret (em_call tk (ok__law_same T) (hr.mono (by first | decide | omega)) T.g__law_same T.k__law_same T.b__law_same (am_cons (em_v 2) (am_cons (em_v 1) (am_nil))))))))))
def m__law_wide_reading : M Fl := mSeq (mDrop (mCallI 0 f__law_next [])) (mSeq (mSet 2 (mCallI 0 f__law_pick [mK (.int 9)])) (mSeq (mIf (mTru (mCallI 0 f__law_one_in [mK (.int 12)])) (mSet 2 (mBin pAdd (mK (.int 58)) (mCallI 0 f__law_pick [mK (.int 43)]))) (mNx)) (mRet (mCB pTuple [mLc [3] (mRng1 (mVar 2)) (gN 3) mYes (mTup [mCallI 0 f__law_one_of [mVar 1], mCallI 0 f__law_pick [mK (.int 3)]])]))))
def f__law_wide_reading : PV → List PV → Option (PV × RO) := runI N__law_wide_reading.length m__law_wide_reading
theorem ok__law_wide_reading (T : Txt K mg cl fa fd) : FnOk P w K mg base (L2N.CX P w) 3 (fa 43) (fd 43) ["source", "pool"] (spI K cl 2 f__law_wide_reading) :=
  fnI (k := 2) (m := m__law_wide_reading) T.F__law_wide_reading sc__law_wide_reading (fun cdv A outer s H E hr => by
    have hu := hu64 hr
    have tk : L2N.Takes (cxOf (L2N.CX P w) P w K mg base N__law_wide_reading "_law_wide_reading" (defScope s__law_wide_reading) (fa 43) cdv A outer s H E) (fun c d _ H' => E c d H') := L2N.takes_of rfl rfl rfl rfl
    exact (sm_cons (sm_expr (em_callI tk (ok__law_next T) (hr.mono (by decide)) T.g__law_next T.k__law_next T.b__law_next (pv 0) (am_nil)))
      (sm_cons (sm_set (i := 2) sc__law_wide_reading.nd rfl (by first | exact Or.inl rfl | exact Or.inr rfl) (em_callI tk (ok__law_pick T) (hr.mono (by decide)) T.g__law_pick T.k__law_pick T.b__law_pick (pv 0) (am_cons (em_int) (am_nil))))
      (sm_cons (sm_if (tm_tru (em_callI tk (ok__law_one_in T) (hr.mono (by decide)) T.g__law_one_in T.k__law_one_in T.b__law_one_in (pv 0) (am_cons (em_int) (am_nil)))) (sm_one (sm_set (i := 2) sc__law_wide_reading.nd rfl (by first | exact Or.inl rfl | exact Or.inr rfl) (em_op br_add (em_int) (em_callI tk (ok__law_pick T) (hr.mono (by decide)) T.g__law_pick T.k__law_pick T.b__law_pick (pv 0) (am_cons (em_int) (am_nil)))))) (sm_nil))
      (sm_one (sm_ret (em_ct cr_tuple cs_tuple T.z_tuple (am_cons (LcM.em (LcM.mk (own := [("k", 3)]) (im_rng1 (em_v 2) T.z_range) (blkOk_by (own := [("k", 3)]) (N := N__law_wide_reading) (sc := defScope s__law_wide_reading) (by decide +kernel)) (blk_tg (fun _ _ _ _ _ => pg_name (i := 3) sc__law_wide_reading.nd rfl (by first | exact Or.inl rfl | exact Or.inr rfl)) (does_gN) (gin_N (by decide))) (blk_ts fun _ _ _ _ _ => ts_nil) (blk_em fun _ _ _ _ _ => em_tup (am_cons (em_callI takes_W0 (ok__law_one_of T) (hr.mono (by decide)) T.g__law_one_of T.k__law_one_of T.b__law_one_of (pv 0) (am_cons (em_v 1) (am_nil))) (am_cons (em_callI takes_W0 (ok__law_pick T) (hr.mono (by decide)) T.g__law_pick T.k__law_pick T.b__law_pick (pv 0) (am_cons (em_int) (am_nil))) (am_nil))))) rfl sc__law_wide_reading.nd) (am_nil)))))))))
def m__law_bent_line : M Fl := mSeq (mSetO 2 (mBinS pSplit (mVar 1) (mK (.str " ")))) (mSeq (mSet 3 (mCallI 0 f__law_pick [mBin pAdd (mCBV pLen 2) (mK (.int 1))])) (mSeq (mIf (mAnd (mTest (mBin pGtI (mCBV pLen 2) (mK (.int 9)))) (mTru (mCallI 0 f__law_one_in [mK (.int 2)]))) (mSet 3 (mBin pSub (mCBV pLen 2) (mCallI 0 f__law_pick [mK (.int 3)]))) (mNx)) (mSeq (mSet 4 (mLst [mK (.str ""), mK (.str "a:0"), mK (.str "a:3"), mK (.str "a:01"), mK (.str "a:"), mK (.str ":1"), mK (.str "a:1:2"), mK (.str "a:b"), mK (.str "a:+1"), mK (.str "A"), mK (.str "a1"), mK (.str "abcdefghi")])) (mSeq (mSet 4 (mBin pAdd (mVar 4) (mLst [mK (.str "abcdefgh:2"), mK (.str "abcdefghi:1"), mK (.str "*a"), mK (.str "_"), mK (.str "read"), mK (.str "read:1"), mK (.str "a:12"), mK (.str "1"), mK (.str ":"), mK (.str "a::1")]))) (mSeq (mSet 5 (mCallI 0 f__law_one_of [mVar 4])) (mSeq (mSet 6 (mCallI 0 f__law_pick [mK (.int 5)])) (mSeq (mIf (mTest (mBin pEq (mVar 6) (mK (.int 0)))) (mIns 2 (mVar 3) (mVar 5)) (mIf (mTest (mBin pEq (mVar 6) (mK (.int 1)))) (mSetO 2 (mBin pCat (mSl (mVar 2) (mNoB) (mBd (mVar 3))) (mSl (mVar 2) (mBd (mBin pAdd (mVar 3) (mK (.int 1)))) (mNoB)))) (mIf (mTest (mBin pEq (mVar 6) (mK (.int 2)))) (mSetO 2 (mBin pCat (mVar 2) (mLst [mVar 5]))) (mSetO 2 (mBin pCat (mBin pAdd (mSl (mVar 2) (mNoB) (mBd (mVar 3))) (mLst [mVar 5])) (mSl (mVar 2) (mBd (mBin pAdd (mVar 3) (mK (.int 1)))) (mNoB))))))) (mRet (mBinS pJoin (mK (.str " ")) (mVar 2))))))))))
def f__law_bent_line : PV → List PV → Option (PV × RO) := runI N__law_bent_line.length m__law_bent_line
theorem ok__law_bent_line (T : Txt K mg cl fa fd) : FnOk P w K mg base (L2N.CX P w) 3 (fa 44) (fd 44) ["source", "line"] (spI K cl 2 f__law_bent_line) :=
  fnI (k := 2) (m := m__law_bent_line) T.F__law_bent_line sc__law_bent_line (fun cdv A outer s H E hr => by
    have hu := hu64 hr
    have tk : L2N.Takes (cxOf (L2N.CX P w) P w K mg base N__law_bent_line "_law_bent_line" (defScope s__law_bent_line) (fa 44) cdv A outer s H E) (fun c d _ H' => E c d H') := L2N.takes_of rfl rfl rfl rfl
    exact (sm_cons (sm_setO (i := 2) sc__law_bent_line.nd rfl (by first | exact Or.inl rfl | exact Or.inr rfl) (fm_split (em_v 1) (em_str)))
      (sm_cons (sm_set (i := 3) sc__law_bent_line.nd rfl (by first | exact Or.inl rfl | exact Or.inr rfl) (em_callI tk (ok__law_pick T) (hr.mono (by decide)) T.g__law_pick T.k__law_pick T.b__law_pick (pv 0) (am_cons (em_op br_add (em_cbV cr_lenA cs_len T.z_len (pv 2)) (em_int)) (am_nil))))
      (sm_cons (sm_if (tm_w (wm_and (tm_cmp br_gt (em_cbV cr_lenA cs_len T.z_len (pv 2)) (em_int) (nomark _)) (wm_and1 (tm_tru (em_callI tk (ok__law_one_in T) (hr.mono (by decide)) T.g__law_one_in T.k__law_one_in T.b__law_one_in (pv 0) (am_cons (em_int) (am_nil))))))) (sm_one (sm_set (i := 3) sc__law_bent_line.nd rfl (by first | exact Or.inl rfl | exact Or.inr rfl) (em_op br_sub (em_cbV cr_lenA cs_len T.z_len (pv 2)) (em_callI tk (ok__law_pick T) (hr.mono (by decide)) T.g__law_pick T.k__law_pick T.b__law_pick (pv 0) (am_cons (em_int) (am_nil)))))) (sm_nil))
      (sm_cons (sm_set (i := 4) sc__law_bent_line.nd rfl (by first | exact Or.inl rfl | exact Or.inr rfl) (em_lst (am_cons (em_str) (am_cons (em_str) (am_cons (em_str) (am_cons (em_str) (am_cons (em_str) (am_cons (em_str) (am_cons (em_str) (am_cons (em_str) (am_cons (em_str) (am_cons (em_str) (am_cons (em_str) (am_cons (em_str) (am_nil)))))))))))))))
      (sm_cons (sm_set (i := 4) sc__law_bent_line.nd rfl (by first | exact Or.inl rfl | exact Or.inr rfl) (em_op br_add (em_v 4) (em_lst (am_cons (em_str) (am_cons (em_str) (am_cons (em_str) (am_cons (em_str) (am_cons (em_str) (am_cons (em_str) (am_cons (em_str) (am_cons (em_str) (am_cons (em_str) (am_cons (em_str) (am_nil))))))))))))))
      (sm_cons (sm_set (i := 5) sc__law_bent_line.nd rfl (by first | exact Or.inl rfl | exact Or.inr rfl) (em_callI tk (ok__law_one_of T) (hr.mono (by decide)) T.g__law_one_of T.k__law_one_of T.b__law_one_of (pv 0) (am_cons (em_v 4) (am_nil))))
      (sm_cons (sm_set (i := 6) sc__law_bent_line.nd rfl (by first | exact Or.inl rfl | exact Or.inr rfl) (em_callI tk (ok__law_pick T) (hr.mono (by decide)) T.g__law_pick T.k__law_pick T.b__law_pick (pv 0) (am_cons (em_int) (am_nil))))
      (sm_cons (sm_if (tm_cmp (br_eq hu) (em_v 6) (em_int) (nomark _)) (sm_one (sm_ins (pv 2) (em_v 3) (em_v 5))) (sm_one (sm_if (tm_cmp (br_eq hu) (em_v 6) (em_int) (nomark _)) (sm_one (sm_setO (i := 2) sc__law_bent_line.nd rfl (by first | exact Or.inl rfl | exact Or.inr rfl) (fm_cat (em_sl (em_v 2) (om_none) (om_some (em_v 3))) (em_sl (em_v 2) (om_some (em_op br_add (em_v 3) (em_int))) (om_none))))) (sm_one (sm_if (tm_cmp (br_eq hu) (em_v 6) (em_int) (nomark _)) (sm_one (sm_setO (i := 2) sc__law_bent_line.nd rfl (by first | exact Or.inl rfl | exact Or.inr rfl) (fm_cat (em_v 2) (em_lst (am_cons (em_v 5) (am_nil)))))) (sm_one (sm_setO (i := 2) sc__law_bent_line.nd rfl (by first | exact Or.inl rfl | exact Or.inr rfl) (fm_cat (em_op br_add (em_sl (em_v 2) (om_none) (om_some (em_v 3))) (em_lst (am_cons (em_v 5) (am_nil)))) (em_sl (em_v 2) (om_some (em_op br_add (em_v 3) (em_int))) (om_none))))))))))
      (sm_one (sm_ret (em_join (em_str) (em_v 2)))))))))))))
def m__law_bent_lines : M Fl := mSeq (mSet 2 (mCallI 0 f__law_pick [mBin pAdd (mCBV pLen 1) (mK (.int 1))])) (mSeq (mSet 3 (mCallI 0 f__law_pick [mK (.int 8)])) (mSeq (mIf (mTest (mBin pEq (mVar 3) (mK (.int 0)))) (mSeq (mSet 4 (mLst [mK (.str ""), mK (.str " "), mK (.str "read"), mK (.str "read "), mK (.str " read"), mK (.str "reads a"), mK (.str "Read a"), mK (.str "read a"), mK (.str "read a:1"), mK (.str "a")])) (mSeq (mSet 4 (mBin pAdd (mBin pAdd (mVar 4) (mLst [mK .non, mK (.int 0), mK (.bl true), mTup [mK (.str "read"), mK (.str "a")], mLst [mK (.str "read")]])) (mVar 1))) (mRet (mBin pAdd (mBin pAdd (mSl (mVar 1) (mNoB) (mBd (mVar 2))) (mLst [mCallI 0 f__law_one_of [mVar 4]])) (mSl (mVar 1) (mBd (mVar 2)) (mNoB)))))) (mNx)) (mSeq (mIf (mTest (mBin pEq (mVar 3) (mK (.int 1)))) (mRet (mBin pAdd (mSl (mVar 1) (mNoB) (mBd (mVar 2))) (mSl (mVar 1) (mBd (mBin pAdd (mVar 2) (mK (.int 1)))) (mNoB)))) (mNx)) (mSeq (mIf (mTest (mBin pEq (mVar 3) (mK (.int 2)))) (mRet (mSl (mBin pAdd (mVar 1) (mBin pMulL (mLst [mK (.str "read")]) (mK (.int 7)))) (mNoB) (mBd (mK (.int 7))))) (mNx)) (mSeq (mIf (mTest (mBin pEq (mVar 3) (mK (.int 3)))) (mRet (mSl (mVar 1) (mNoB) (mBd (mVar 2)))) (mNx)) (mSeq (mIf (mOr (mTest (mBin pEq (mVar 2) (mCBV pLen 1))) (mNot (mTru (mIsa (ansT noOc "str") (mIxV 1 (mVar 2)))))) (mRet (mVar 1)) (mNx)) (mRet (mBin pAdd (mBin pAdd (mSl (mVar 1) (mNoB) (mBd (mVar 2))) (mLst [mCallI 0 f__law_bent_line [mIxV 1 (mVar 2)]])) (mSl (mVar 1) (mBd (mBin pAdd (mVar 2) (mK (.int 1)))) (mNoB))))))))))
def f__law_bent_lines : PV → List PV → Option (PV × RO) := runI N__law_bent_lines.length m__law_bent_lines
theorem ok__law_bent_lines (T : Txt K mg cl fa fd) : FnOk P w K mg base (L2N.CX P w) 4 (fa 45) (fd 45) ["source", "lines"] (spI K cl 2 f__law_bent_lines) :=
  fnI (k := 3) (m := m__law_bent_lines) T.F__law_bent_lines sc__law_bent_lines (fun cdv A outer s H E hr => by
    have hu := hu64 hr
    have tk : L2N.Takes (cxOf (L2N.CX P w) P w K mg base N__law_bent_lines "_law_bent_lines" (defScope s__law_bent_lines) (fa 45) cdv A outer s H E) (fun c d _ H' => E c d H') := L2N.takes_of rfl rfl rfl rfl
    exact (sm_cons (sm_set (i := 2) sc__law_bent_lines.nd rfl (by first | exact Or.inl rfl | exact Or.inr rfl) (em_callI tk (ok__law_pick T) (hr.mono (by decide)) T.g__law_pick T.k__law_pick T.b__law_pick (pv 0) (am_cons (em_op br_add (em_cbV cr_lenA cs_len T.z_len (pv 1)) (em_int)) (am_nil))))
      (sm_cons (sm_set (i := 3) sc__law_bent_lines.nd rfl (by first | exact Or.inl rfl | exact Or.inr rfl) (em_callI tk (ok__law_pick T) (hr.mono (by decide)) T.g__law_pick T.k__law_pick T.b__law_pick (pv 0) (am_cons (em_int) (am_nil))))
      (sm_cons (sm_if (tm_cmp (br_eq hu) (em_v 3) (em_int) (nomark _)) (sm_cons (sm_set (i := 4) sc__law_bent_lines.nd rfl (by first | exact Or.inl rfl | exact Or.inr rfl) (em_lst (am_cons (em_str) (am_cons (em_str) (am_cons (em_str) (am_cons (em_str) (am_cons (em_str) (am_cons (em_str) (am_cons (em_str) (am_cons (em_str) (am_cons (em_str) (am_cons (em_str) (am_nil)))))))))))))
      (sm_cons (sm_set (i := 4) sc__law_bent_lines.nd rfl (by first | exact Or.inl rfl | exact Or.inr rfl) (em_op br_add (em_op br_add (em_v 4) (em_lst (am_cons (em_non) (am_cons (em_int) (am_cons (em_bl) (am_cons (em_tup (am_cons (em_str) (am_cons (em_str) (am_nil)))) (am_cons (em_lst (am_cons (em_str) (am_nil))) (am_nil)))))))) (em_v 1)))
      (sm_one (sm_ret (em_op br_add (em_op br_add (em_sl (em_v 1) (om_none) (om_some (em_v 2))) (em_lst (am_cons (em_callI tk (ok__law_one_of T) (hr.mono (by decide)) T.g__law_one_of T.k__law_one_of T.b__law_one_of (pv 0) (am_cons (em_v 4) (am_nil))) (am_nil)))) (em_sl (em_v 1) (om_some (em_v 2)) (om_none))))))) (sm_nil))
      (sm_cons (sm_if (tm_cmp (br_eq hu) (em_v 3) (em_int) (nomark _)) (sm_one (sm_ret (em_op br_add (em_sl (em_v 1) (om_none) (om_some (em_v 2))) (em_sl (em_v 1) (om_some (em_op br_add (em_v 2) (em_int))) (om_none))))) (sm_nil))
      (sm_cons (sm_if (tm_cmp (br_eq hu) (em_v 3) (em_int) (nomark _)) (sm_one (sm_ret (em_sl (em_op br_add (em_v 1) (em_op br_mulL (em_lst (am_cons (em_str) (am_nil))) (em_int))) (om_none) (om_some (em_int))))) (sm_nil))
      (sm_cons (sm_if (tm_cmp (br_eq hu) (em_v 3) (em_int) (nomark _)) (sm_one (sm_ret (em_sl (em_v 1) (om_none) (om_some (em_v 2))))) (sm_nil))
      (sm_cons (sm_if (tm_w (wm_or (tm_cmp (br_eq hu) (em_v 2) (em_cbV cr_lenA cs_len T.z_len (pv 1)) (nomark _)) (wm_or1 (tm_not (tm_tru (em_isa (isa_T0) (.ty _) T.z_isinstance (em_ixV hu (pv 1) (em_v 2)) (pe_bltn (x := "str") (by rfl) T.z_str (v := .ty "str") (by rfl) rfl))))))) (sm_one (sm_ret (em_v 1))) (sm_nil))
      (sm_one (sm_ret (em_op br_add (em_op br_add (em_sl (em_v 1) (om_none) (om_some (em_v 2))) (em_lst (am_cons (em_callI tk (ok__law_bent_line T) (hr.mono (by decide)) T.g__law_bent_line T.k__law_bent_line T.b__law_bent_line (pv 0) (am_cons (em_ixV hu (pv 1) (em_v 2)) (am_nil))) (am_nil)))) (em_sl (em_v 1) (om_some (em_op br_add (em_v 2) (em_int))) (om_none)))))))))))))
noncomputable def m__law_there_and_back : M Fl := mSeq (mSet 2 (mLc [5] (mIterA (mVar 0)) (gN 5) mYes (mCall f__law_reading_line [mVar 5]))) (mSeq (mSet 3 (mIfE (mTest (mBin pEq (mVar 1) (mK (.int 1)))) (mCall f__law_lists [mVar 0]) (mVar 0))) (mSeq (mIf (mNot (mTru (mCall f__law_same [mCall f_write_work [mVar 3], mCB pTuple [mVar 2]]))) (mRet (mK (.bl false))) (mNx)) (mSeq (mFor (mRng1 (mCBV pLen 0)) (gN 4) (mSeq (mIf (mNot (mTru (mCall f__law_same [mCall f_write_reading [mIxV 3 (mVar 4)], mIxV 2 (mVar 4)]))) (mRet (mK (.bl false))) (mNx)) (mIf (mNot (mTru (mCall f__law_same [mCall f_read_reading [mIxV 2 (mVar 4)], mIxV 0 (mVar 4)]))) (mRet (mK (.bl false))) (mNx)))) (mSeq (mIf (mNot (mTru (mCall f__law_asked_work [mIfE (mTest (mBin pEq (mVar 1) (mK (.int 1)))) (mCB pTuple [mVar 2]) (mVar 2), mTup [mK (.str "told"), mVar 0]]))) (mRet (mK (.bl false))) (mNx)) (mRet (mB (mOr (mTest (mB (mNot (mTest (mBin pEq (mVar 1) (mK (.int 1))))))) (mTest (mBin pEq (mVar 3) (mCall f__law_lists [mVar 0]))))))))))
noncomputable def f__law_there_and_back : List PV → Option RO := runP N__law_there_and_back.length m__law_there_and_back
theorem ok__law_there_and_back (T : Txt K mg cl fa fd) : FnOk P w K mg base (L2N.CX P w) 11 (fa 46) (fd 46) ["chapters", "form"] (spP K cl 2 f__law_there_and_back) :=
  fnP (k := 10) (m := m__law_there_and_back) T.F__law_there_and_back sc__law_there_and_back (fun cdv A outer s H E hr => by
    have hu := hu64 hr
    have tk : L2N.Takes (cxOf (L2N.CX P w) P w K mg base N__law_there_and_back "_law_there_and_back" (defScope s__law_there_and_back) (fa 46) cdv A outer s H E) (fun c d _ H' => E c d H') := L2N.takes_of rfl rfl rfl rfl
    exact (sm_cons (LcM.set (i := 2) (LcM.mk (own := [("chapter", 5)]) (im_any (em_v 0)) (blkOk_by (own := [("chapter", 5)]) (N := N__law_there_and_back) (sc := defScope s__law_there_and_back) (by decide +kernel)) (blk_tg (fun _ _ _ _ _ => pg_name (i := 5) sc__law_there_and_back.nd rfl (by first | exact Or.inl rfl | exact Or.inr rfl)) (does_gN) (gin_N (by decide))) (blk_ts fun _ _ _ _ _ => ts_nil) (blk_em fun _ _ _ _ _ => em_call takes_W0 (ok__law_reading_line T) (hr.mono (by first | decide | omega)) T.g__law_reading_line T.k__law_reading_line T.b__law_reading_line (am_cons (em_v 5) (am_nil)))) rfl sc__law_there_and_back.nd rfl rfl (sw_true rfl rfl rfl (by decide +kernel)))
      (sm_cons (sm_set (i := 3) sc__law_there_and_back.nd rfl (by first | exact Or.inl rfl | exact Or.inr rfl) (em_ife (tm_cmp (br_eq hu) (em_v 1) (em_int) (nomark _)) (em_call tk (ok__law_lists T) (hr.mono (by first | decide | omega)) T.g__law_lists T.k__law_lists T.b__law_lists (am_cons (em_v 0) (am_nil))) (em_v 0)))
      (sm_cons (sm_if (tm_not (tm_tru (em_call tk (ok__law_same T) (hr.mono (by first | decide | omega)) T.g__law_same T.k__law_same T.b__law_same (am_cons (em_call tk (ok_write_work T) (hr.mono (by first | decide | omega)) T.g_write_work T.k_write_work T.b_write_work (am_cons (em_v 3) (am_nil))) (am_cons (em_ct cr_tuple cs_tuple T.z_tuple (am_cons (em_v 2) (am_nil))) (am_nil)))))) (sm_one (sm_ret (em_bl))) (sm_nil))
      (sm_cons (sm_for (passes_of rfl) rfl (im_rng1 (em_cbV cr_lenA cs_len T.z_len (pv 0)) T.z_range) (gm_of (pg_name (i := 4) sc__law_there_and_back.nd rfl (by first | exact Or.inl rfl | exact Or.inr rfl)) (does_gN)) (sm_cons (sm_if (tm_not (tm_tru (em_call tk (ok__law_same T) (hr.mono (by first | decide | omega)) T.g__law_same T.k__law_same T.b__law_same (am_cons (em_call tk (ok_write_reading T) (hr.mono (by first | decide | omega)) T.g_write_reading T.k_write_reading T.b_write_reading (am_cons (em_ixV hu (pv 3) (em_v 4)) (am_nil))) (am_cons (em_ixV hu (pv 2) (em_v 4)) (am_nil)))))) (sm_one (sm_ret (em_bl))) (sm_nil))
      (sm_one (sm_if (tm_not (tm_tru (em_call tk (ok__law_same T) (hr.mono (by first | decide | omega)) T.g__law_same T.k__law_same T.b__law_same (am_cons (em_call tk (ok_read_reading T) (hr.mono (by first | decide | omega)) T.g_read_reading T.k_read_reading T.b_read_reading (am_cons (em_ixV hu (pv 2) (em_v 4)) (am_nil))) (am_cons (em_ixV hu (pv 0) (em_v 4)) (am_nil)))))) (sm_one (sm_ret (em_bl))) (sm_nil)))))
      (sm_cons (sm_if (tm_not (tm_tru (em_call tk (ok__law_asked_work T) (hr.mono (by first | decide | omega)) T.g__law_asked_work T.k__law_asked_work T.b__law_asked_work (am_cons (em_ife (tm_cmp (br_eq hu) (em_v 1) (em_int) (nomark _)) (em_ct cr_tuple cs_tuple T.z_tuple (am_cons (em_v 2) (am_nil))) (em_v 2)) (am_cons (em_tup (am_cons (em_str) (am_cons (em_v 0) (am_nil)))) (am_nil)))))) (sm_one (sm_ret (em_bl))) (sm_nil))
      (sm_one (sm_ret (em_or (em_not (em_cmp (br_eq hu) (em_v 1) (em_int) (nomark _))) (em_one (em_cmp (br_eq hu) (em_v 3) (em_call tk (ok__law_lists T) (hr.mono (by first | decide | omega)) T.g__law_lists T.k__law_lists T.b__law_lists (am_cons (em_v 0) (am_nil))) (nomark _))))))))))))
noncomputable def m__law_round : M Fl := mSeq (mDrop (mCallI 0 f__law_next [])) (mSeq (mSet 2 (mCallI 0 f__law_words [mK (.int 3), mK (.int 7), mLst []])) (mSeq (mSet 3 (mBin pAdd (mK (.int 1)) (mCallI 0 f__law_pick [mK (.int 6)]))) (mSeq (mSet 4 (mCB pTuple [mLc [8] (mRng1 (mVar 3)) (gN 8) mYes (mCallI 0 f__law_wide_reading [mVar 2])])) (mSeq (mIf (mNot (mTru (mCall f__law_there_and_back [mVar 4, mVar 1]))) (mRet (mK (.bl false))) (mNx)) (mSeq (mSet 5 (mLc [11] (mIterA (mVar 4)) (gN 11) mYes (mCall f__law_reading_line [mVar 11]))) (mSeq (mFor (mRng1 (mK (.int 4))) (gN 6) (mSeq (mDrop (mCallI 0 f__law_next [])) (mSeq (mSet 7 (mCB pList [mVar 5])) (mSeq (mFor (mRng1 (mBin pAdd (mK (.int 1)) (mCallI 0 f__law_pick [mK (.int 2)]))) (gN 8) (mSet 7 (mCallI 0 f__law_bent_lines [mVar 7]))) (mSeq (mSet 9 (mCB pList [mVar 7])) (mSeq (mSet 10 (mCall f__law_read [mVar 7])) (mSeq (mIf (mOr (mNot (mTru (mCall f__law_asked_work [mIfE (mTest (mBin pEq (mVar 1) (mK (.int 1)))) (mVar 9) (mCB pTuple [mVar 9]), mVar 10]))) (mNot (mTest (mBin pEq (mVar 9) (mVar 7))))) (mRet (mK (.bl false))) (mNx)) (mIf (mAnd (mTru (mVar 7)) (mNot (mTru (mCall f__law_asked_line [mCallI 0 f__law_one_of [mVar 7]])))) (mRet (mK (.bl false))) (mNx))))))))) (mRet (mCall f__law_there_and_back [mVar 4, mBin pSub (mK (.int 1)) (mVar 1)]))))))))
noncomputable def f__law_round : PV → List PV → Option (PV × RO) := runI N__law_round.length m__law_round
theorem ok__law_round (T : Txt K mg cl fa fd) : FnOk P w K mg base (L2N.CX P w) 12 (fa 47) (fd 47) ["source", "form"] (spI K cl 2 f__law_round) :=
  fnI (k := 11) (m := m__law_round) T.F__law_round sc__law_round (fun cdv A outer s H E hr => by
    have hu := hu64 hr
    have tk : L2N.Takes (cxOf (L2N.CX P w) P w K mg base N__law_round "_law_round" (defScope s__law_round) (fa 47) cdv A outer s H E) (fun c d _ H' => E c d H') := L2N.takes_of rfl rfl rfl rfl
    exact (sm_cons (sm_expr (em_callI tk (ok__law_next T) (hr.mono (by decide)) T.g__law_next T.k__law_next T.b__law_next (pv 0) (am_nil)))
      (sm_cons (sm_set (i := 2) sc__law_round.nd rfl (by first | exact Or.inl rfl | exact Or.inr rfl) (em_callI tk (ok__law_words T) (hr.mono (by decide)) T.g__law_words T.k__law_words T.b__law_words (pv 0) (am_cons (em_int) (am_cons (em_int) (am_cons (em_lst (am_nil)) (am_nil))))))
      (sm_cons (sm_set (i := 3) sc__law_round.nd rfl (by first | exact Or.inl rfl | exact Or.inr rfl) (em_op br_add (em_int) (em_callI tk (ok__law_pick T) (hr.mono (by decide)) T.g__law_pick T.k__law_pick T.b__law_pick (pv 0) (am_cons (em_int) (am_nil)))))
      (sm_cons (sm_set (i := 4) sc__law_round.nd rfl (by first | exact Or.inl rfl | exact Or.inr rfl) (em_ct cr_tuple cs_tuple T.z_tuple (am_cons (LcM.em (LcM.mk (own := [("k", 8)]) (im_rng1 (em_v 3) T.z_range) (blkOk_by (own := [("k", 8)]) (N := N__law_round) (sc := defScope s__law_round) (by decide +kernel)) (blk_tg (fun _ _ _ _ _ => pg_name (i := 8) sc__law_round.nd rfl (by first | exact Or.inl rfl | exact Or.inr rfl)) (does_gN) (gin_N (by decide))) (blk_ts fun _ _ _ _ _ => ts_nil) (blk_em fun _ _ _ _ _ => em_callI takes_W0 (ok__law_wide_reading T) (hr.mono (by decide)) T.g__law_wide_reading T.k__law_wide_reading T.b__law_wide_reading (pv 0) (am_cons (em_v 2) (am_nil)))) rfl sc__law_round.nd) (am_nil))))
      (sm_cons (sm_if (tm_not (tm_tru (em_call tk (ok__law_there_and_back T) (hr.mono (by first | decide | omega)) T.g__law_there_and_back T.k__law_there_and_back T.b__law_there_and_back (am_cons (em_v 4) (am_cons (em_v 1) (am_nil)))))) (sm_one (sm_ret (em_bl))) (sm_nil))
      (sm_cons (LcM.set (i := 5) (LcM.mk (own := [("chapter", 11)]) (im_any (em_v 4)) (blkOk_by (own := [("chapter", 11)]) (N := N__law_round) (sc := defScope s__law_round) (by decide +kernel)) (blk_tg (fun _ _ _ _ _ => pg_name (i := 11) sc__law_round.nd rfl (by first | exact Or.inl rfl | exact Or.inr rfl)) (does_gN) (gin_N (by decide))) (blk_ts fun _ _ _ _ _ => ts_nil) (blk_em fun _ _ _ _ _ => em_call takes_W0 (ok__law_reading_line T) (hr.mono (by first | decide | omega)) T.g__law_reading_line T.k__law_reading_line T.b__law_reading_line (am_cons (em_v 11) (am_nil)))) rfl sc__law_round.nd rfl rfl (sw_true rfl rfl rfl (by decide +kernel)))
      (sm_cons (sm_for (passes_of rfl) rfl (im_rng1 (em_int) T.z_range) (gm_of (pg_name (i := 6) sc__law_round.nd rfl (by first | exact Or.inl rfl | exact Or.inr rfl)) (does_gN)) (sm_cons (sm_expr (em_callI tk (ok__law_next T) (hr.mono (by decide)) T.g__law_next T.k__law_next T.b__law_next (pv 0) (am_nil)))
      (sm_cons (sm_set (i := 7) sc__law_round.nd rfl (by first | exact Or.inl rfl | exact Or.inr rfl) (em_fm (fm_ct cr_list cs_list T.z_list (am_cons (em_v 5) (am_nil)))))
      (sm_cons (sm_for (passes_of rfl) rfl (im_rng1 (em_op br_add (em_int) (em_callI tk (ok__law_pick T) (hr.mono (by decide)) T.g__law_pick T.k__law_pick T.b__law_pick (pv 0) (am_cons (em_int) (am_nil)))) T.z_range) (gm_of (pg_name (i := 8) sc__law_round.nd rfl (by first | exact Or.inl rfl | exact Or.inr rfl)) (does_gN)) (sm_one (sm_set (i := 7) sc__law_round.nd rfl (by first | exact Or.inl rfl | exact Or.inr rfl) (em_callI tk (ok__law_bent_lines T) (hr.mono (by decide)) T.g__law_bent_lines T.k__law_bent_lines T.b__law_bent_lines (pv 0) (am_cons (em_v 7) (am_nil))))))
      (sm_cons (sm_set (i := 9) sc__law_round.nd rfl (by first | exact Or.inl rfl | exact Or.inr rfl) (em_fm (fm_ct cr_list cs_list T.z_list (am_cons (em_v 7) (am_nil)))))
      (sm_cons (sm_set (i := 10) sc__law_round.nd rfl (by first | exact Or.inl rfl | exact Or.inr rfl) (em_call tk (ok__law_read T) (hr.mono (by first | decide | omega)) T.g__law_read T.k__law_read T.b__law_read (am_cons (em_v 7) (am_nil))))
      (sm_cons (sm_if (tm_w (wm_or (tm_not (tm_tru (em_call tk (ok__law_asked_work T) (hr.mono (by first | decide | omega)) T.g__law_asked_work T.k__law_asked_work T.b__law_asked_work (am_cons (em_ife (tm_cmp (br_eq hu) (em_v 1) (em_int) (nomark _)) (em_v 9) (em_ct cr_tuple cs_tuple T.z_tuple (am_cons (em_v 9) (am_nil)))) (am_cons (em_v 10) (am_nil)))))) (wm_or1 (tm_not (tm_cmp (br_eq hu) (em_v 9) (em_v 7) (nomark _)))))) (sm_one (sm_ret (em_bl))) (sm_nil))
      (sm_one (sm_if (tm_w (wm_and (tm_tru (em_v 7)) (wm_and1 (tm_not (tm_tru (em_call tk (ok__law_asked_line T) (hr.mono (by first | decide | omega)) T.g__law_asked_line T.k__law_asked_line T.b__law_asked_line (am_cons (em_callI tk (ok__law_one_of T) (hr.mono (by decide)) T.g__law_one_of T.k__law_one_of T.b__law_one_of (pv 0) (am_cons (em_v 7) (am_nil))) (am_nil)))))))) (sm_one (sm_ret (em_bl))) (sm_nil))))))))))
      (sm_one (sm_ret (em_call tk (ok__law_there_and_back T) (hr.mono (by first | decide | omega)) T.g__law_there_and_back T.k__law_there_and_back T.b__law_there_and_back (am_cons (em_v 4) (am_cons (em_op br_sub (em_int) (em_v 1)) (am_nil))))))))))))))
noncomputable def m_law : M Fl := mSeq (mSetO 1 (mCall f__law_source [mVar 0, mK (.int 0)])) (mRet (mB (mAnd (mTest (mCallI 1 f__law_round [mK (.int 0)])) (mAnd (mTest (mCallI 1 f__law_round [mK (.int 1)])) (mTest (mCallI 1 f__law_round [mK (.int 0)]))))))
noncomputable def f_law : List PV → Option RO := runP N_law.length m_law
theorem ok_law (T : Txt K mg cl fa fd) : FnOk P w K mg base (L2N.CX P w) 13 (fa 48) (fd 48) ["script"] (spP K cl 1 f_law) :=
  fnP (k := 12) (m := m_law) T.F_law sc_law (fun cdv A outer s H E hr => by
    have hu := hu64 hr
    have tk : L2N.Takes (cxOf (L2N.CX P w) P w K mg base N_law "law" (defScope s_law) (fa 48) cdv A outer s H E) (fun c d _ H' => E c d H') := L2N.takes_of rfl rfl rfl rfl
    exact (sm_cons (sm_setO (i := 1) sc_law.nd rfl (by first | exact Or.inl rfl | exact Or.inr rfl) (fm_call tk (ok__law_source T) (hr.mono (by first | decide | omega)) T.g__law_source T.k__law_source T.b__law_source (am_cons (em_v 0) (am_cons (em_int) (am_nil)))))
      (sm_one (sm_ret (em_and (em_callI tk (ok__law_round T) (hr.mono (by decide)) T.g__law_round T.k__law_round T.b__law_round (pv 1) (am_cons (em_int) (am_nil))) (em_and (em_callI tk (ok__law_round T) (hr.mono (by decide)) T.g__law_round T.k__law_round T.b__law_round (pv 1) (am_cons (em_int) (am_nil))) (em_one (em_callI tk (ok__law_round T) (hr.mono (by decide)) T.g__law_round T.k__law_round T.b__law_round (pv 1) (am_cons (em_int) (am_nil))))))))))
end
end
end A07
set_option Elab.async false
set_option linter.all false
set_option maxRecDepth 100000
set_option maxHeartbeats 4000000
namespace Kp
open PySem L2

/-! ### what a computation answers, step by step -/
def wq {α : Type} (m : M α) (S : Sto) (P : α → Sto → Prop) : Prop := ∃ x S', m S = some (.ok x S') ∧ P x S'
section
variable {α β : Type} {S : Sto}
theorem wq_mono {m : M α} {P Q : α → Sto → Prop} (h : wq m S P) (k : ∀ x S', P x S' → Q x S') : wq m S Q := let ⟨x, S', e, p⟩ := h; ⟨x, S', e, k _ _ p⟩
@[simp] theorem wq_ret {x : α} {P : α → Sto → Prop} : wq (ret x) S P ↔ P x S := by
  constructor
  · rintro ⟨y, S', e, p⟩
    cases e
    exact p
  · exact fun p => ⟨x, S, rfl, p⟩
theorem wq_bnd {m : M α} {k : α → M β} {P : β → Sto → Prop} : wq (bnd m k) S P ↔ wq m S fun x S1 => wq (k x) S1 P := by
  constructor
  · rintro ⟨y, S', e, p⟩
    unfold bnd at e
    split at e
    · rename_i x S1 e1
      exact ⟨x, S1, e1, y, S', e, p⟩
    · cases e
    · cases e
  · rintro ⟨x, S1, e1, y, S', e, p⟩
    refine ⟨y, S', ?_, p⟩
    unfold bnd
    rw [e1]
    exact e
theorem wq_lift {o : Option α} {P : α → Sto → Prop} : wq (lift o) S P ↔ ∃ y, o = some y ∧ P y S := by
  constructor
  · rintro ⟨y, S', e, p⟩
    obtain ⟨z, e1, e2⟩ := lift_eq e
    cases e2
    exact ⟨y, e1, p⟩
  · rintro ⟨y, rfl, p⟩
    exact ⟨y, S, rfl, p⟩
@[simp] theorem wq_none {P : α → Sto → Prop} : wq (fun _ => none : M α) S P ↔ False := by
  constructor
  · rintro ⟨y, S', e, p⟩
    cases e
  · exact False.elim
theorem wq_ite {c : Prop} [Decidable c] {m n : M α} {P : α → Sto → Prop} : wq (if c then m else n) S P ↔ if c then wq m S P else wq n S P := by
  split <;> rfl
theorem wq_mNx {P : Fl → Sto → Prop} : wq mNx S P ↔ P .nx S := wq_ret
theorem wq_mRet {m : M PV} {P : Fl → Sto → Prop} : wq (mRet m) S P ↔ wq m S fun x S1 => P (.rt x) S1 := by
  unfold mRet
  simp only [wq_bnd, wq_ret]
theorem wq_mDrop {m : M PV} {P : Fl → Sto → Prop} : wq (mDrop m) S P ↔ wq m S fun _ S1 => P .nx S1 := by
  unfold mDrop
  simp only [wq_bnd, wq_ret]
def aft (u : M Fl) (P : Fl → Sto → Prop) : Fl → Sto → Prop
  | .nx, S => wq u S P
  | .rt y, S => P (.rt y) S
  | .bk, S => P .bk S
  | .ct, S => P .ct S
theorem aft_nx {u : M Fl} {P : Fl → Sto → Prop} : aft u P .nx S ↔ wq u S P := Iff.rfl
theorem aft_rt {u : M Fl} {P : Fl → Sto → Prop} {y : PV} : aft u P (.rt y) S ↔ P (.rt y) S := Iff.rfl
theorem aft_bk {u : M Fl} {P : Fl → Sto → Prop} : aft u P .bk S ↔ P .bk S := Iff.rfl
theorem aft_ct {u : M Fl} {P : Fl → Sto → Prop} : aft u P .ct S ↔ P .ct S := Iff.rfl
theorem wq_mSeq {m u : M Fl} {P : Fl → Sto → Prop} : wq (mSeq m u) S P ↔ wq m S (aft u P) := by
  unfold mSeq
  rw [wq_bnd]
  constructor
  · rintro ⟨x, S1, e, p⟩
    refine ⟨x, S1, e, ?_⟩
    cases x <;> first | exact p | exact (wq_ret (P := P)).mp p | (have q : wq (ret _) S1 P := p; exact wq_ret.mp q)
  · rintro ⟨x, S1, e, p⟩
    refine ⟨x, S1, e, ?_⟩
    cases x <;> first | exact p | (have q : wq (ret _) S1 P := wq_ret.mpr p; exact q)
theorem wq_mIf {c : M Bool} {m n : M Fl} {P : Fl → Sto → Prop} : wq (mIf c m n) S P ↔ wq c S fun b S1 => (b = true → wq m S1 P) ∧ (b = false → wq n S1 P) := by
  unfold mIf
  rw [wq_bnd]
  have e : (fun (x : Bool) S1 => wq (if x = true then m else n) S1 P) = fun b S1 => (b = true → wq m S1 P) ∧ (b = false → wq n S1 P) := by
    funext b S1
    cases b <;> simp
  rw [e]
theorem wq_mIfE {c : M Bool} {m n : M PV} {P : PV → Sto → Prop} : wq (mIfE c m n) S P ↔ wq c S fun b S1 => (b = true → wq m S1 P) ∧ (b = false → wq n S1 P) := by
  unfold mIfE
  rw [wq_bnd]
  have e : (fun (x : Bool) S1 => wq (if x = true then m else n) S1 P) = fun b S1 => (b = true → wq m S1 P) ∧ (b = false → wq n S1 P) := by
    funext b S1
    cases b <;> simp
  rw [e]
theorem wq_mK {x : PV} {P : PV → Sto → Prop} : wq (mK x) S P ↔ P x S := wq_ret
theorem wq_mBin {g : PV → PV → Option PV} {ma mb : M PV} {P : PV → Sto → Prop} : wq (mBin g ma mb) S P ↔ wq ma S fun x S1 => wq mb S1 fun y S2 => ∃ z, g x y = some z ∧ P z S2 := by
  unfold mBin
  simp only [wq_bnd, wq_lift]
theorem wq_mTest {m : M PV} {P : Bool → Sto → Prop} : wq (mTest m) S P ↔ wq m S fun x S1 => ∃ b, x = .bl b ∧ P b S1 := by
  unfold mTest
  rw [wq_bnd]
  have e : (fun x S1 => wq (asB x) S1 P) = fun x S1 => ∃ b, x = .bl b ∧ P b S1 := by
    funext x S1
    cases x <;> simp [asB]
  rw [e]
theorem wq_mTru {m : M PV} {P : Bool → Sto → Prop} : wq (mTru m) S P ↔ wq m S fun x S1 => ∃ b, truP x = some b ∧ P b S1 := by
  unfold mTru
  simp only [wq_bnd, wq_lift]
theorem wq_mNot {m : M Bool} {P : Bool → Sto → Prop} : wq (mNot m) S P ↔ wq m S fun b S1 => P (!b) S1 := by
  unfold mNot
  simp only [wq_bnd, wq_ret]
theorem wq_mB {m : M Bool} {P : PV → Sto → Prop} : wq (mB m) S P ↔ wq m S fun b S1 => P (.bl b) S1 := by
  unfold mB
  simp only [wq_bnd, wq_ret]
theorem wq_mAnd {m n : M Bool} {P : Bool → Sto → Prop} : wq (mAnd m n) S P ↔ wq m S fun b S1 => (b = true → wq n S1 P) ∧ (b = false → P false S1) := by
  unfold mAnd
  rw [wq_bnd]
  have e : (fun (b : Bool) S1 => wq (if b = true then n else ret false) S1 P) = fun b S1 => (b = true → wq n S1 P) ∧ (b = false → P false S1) := by
    funext b S1
    cases b <;> simp
  rw [e]
theorem wq_mOr {m n : M Bool} {P : Bool → Sto → Prop} : wq (mOr m n) S P ↔ wq m S fun b S1 => (b = true → P true S1) ∧ (b = false → wq n S1 P) := by
  unfold mOr
  rw [wq_bnd]
  have e : (fun (b : Bool) S1 => wq (if b = true then ret true else n) S1 P) = fun b S1 => (b = true → P true S1) ∧ (b = false → wq n S1 P) := by
    funext b S1
    cases b <;> simp
  rw [e]
theorem wq_mArgs_nil {P : List PV → Sto → Prop} : wq (mArgs []) S P ↔ P [] S := wq_ret
theorem wq_mArgs_cons {m : M PV} {ms : List (M PV)} {P : List PV → Sto → Prop} : wq (mArgs (m :: ms)) S P ↔ wq m S fun x S1 => wq (mArgs ms) S1 fun xs S2 => P (x :: xs) S2 := by
  show wq (bnd m fun x => bnd (mArgs ms) fun xs => ret (x :: xs)) S P ↔ _
  simp only [wq_bnd, wq_ret]
theorem wq_mTup {ms : List (M PV)} {P : PV → Sto → Prop} : wq (mTup ms) S P ↔ wq (mArgs ms) S fun xs S1 => P (.tup xs) S1 := by
  unfold mTup
  simp only [wq_bnd, wq_ret]
theorem wq_mLst {ms : List (M PV)} {P : PV → Sto → Prop} : wq (mLst ms) S P ↔ wq (mArgs ms) S fun xs S1 => P (.lst xs) S1 := by
  unfold mLst
  simp only [wq_bnd, wq_ret]
theorem wq_mCB {g : List PV → Option PV} {ms : List (M PV)} {P : PV → Sto → Prop} : wq (mCB g ms) S P ↔ wq (mArgs ms) S fun xs S1 => ∃ z, g xs = some z ∧ P z S1 := by
  unfold mCB
  simp only [wq_bnd, wq_lift]
theorem wq_mUn {g : PV → Option PV} {m : M PV} {P : PV → Sto → Prop} : wq (mUn g m) S P ↔ wq m S fun x S1 => ∃ z, g x = some z ∧ P z S1 := by
  unfold mUn
  simp only [wq_bnd, wq_lift]
theorem wq_mLenO {c : Nat} {f : List PV → Option RO} {m : M PV} {P : PV → Sto → Prop} : wq (mLenO c f m) S P ↔ wq m S fun x S1 => ∃ z, pLenO c f x = some z ∧ P z S1 := wq_mUn
theorem wq_mIsa {ans : PV → Option Bool} {m : M PV} {P : PV → Sto → Prop} : wq (mIsa ans m) S P ↔ wq m S fun x S1 => ∃ b, ans x = some b ∧ P (.bl b) S1 := by
  unfold mIsa
  simp only [wq_bnd, wq_lift]
  refine ⟨fun ⟨x, S1, e, y, e1, p⟩ => ?_, fun ⟨x, S1, e, b, e1, p⟩ => ⟨x, S1, e, .bl b, by rw [e1]; rfl, p⟩⟩
  cases q : ans x with
  | none => rw [q] at e1; cases e1
  | some b =>
    rw [q] at e1
    cases e1
    exact ⟨x, S1, e, b, q, p⟩
def isN (n : Bool) : PV → PV
  | .non => .bl (!n)
  | _ => .bl n
theorem wq_mIsN {n : Bool} {m : M PV} {P : PV → Sto → Prop} : wq (mIsN n m) S P ↔ wq m S fun x S1 => P (isN n x) S1 := by
  unfold mIsN
  rw [wq_bnd]
  have e : ∀ x : PV, (match x with | .non => PV.bl (!n) | _ => .bl n) = isN n x := fun x => by cases x <;> rfl
  constructor
  · rintro ⟨x, S1, h, p⟩
    refine ⟨x, S1, h, ?_⟩
    have q := wq_ret.mp p
    cases x <;> exact q
  · rintro ⟨x, S1, h, p⟩
    refine ⟨x, S1, h, wq_ret.mpr ?_⟩
    cases x <;> exact p
theorem wq_roM {o : Option RO} {P : PV → Sto → Prop} : wq (roM o) S P ↔ ∃ y, o = some (.ret y) ∧ P y S := by
  cases o with
  | none => simp [roM]
  | some r =>
    cases r with
    | ret y => simp [roM]
    | exc c fs =>
      simp only [roM, Option.some.injEq, reduceCtorEq, false_and, exists_false, iff_false]
      rintro ⟨x, S', e, p⟩
      cases e
theorem wq_mCall {f : List PV → Option RO} {ms : List (M PV)} {P : PV → Sto → Prop} : wq (mCall f ms) S P ↔ wq (mArgs ms) S fun xs S1 => ∃ y, f xs = some (.ret y) ∧ P y S1 := by
  unfold mCall
  simp only [wq_bnd, wq_roM]
theorem wq_roQ {o : Option RO} {P : PV → Sto → Prop} : wq (roQ o) S P ↔ ∃ y, o = some (.ret y) ∧ P y S := by
  cases o with
  | none => simp [roQ]
  | some r => cases r <;> simp [roQ]
theorem wq_mCMeth {c : Nat} {f : List PV → Option RO} {ms : List (M PV)} {P : PV → Sto → Prop} : wq (mCMeth c f ms) S P ↔ wq (mArgs ms) S fun xs S1 => ∃ y, f (.glb c :: xs) = some (.ret y) ∧ P y S1 := by
  unfold mCMeth
  simp only [wq_bnd, wq_roQ]
theorem wq_mVar {i : Nat} {P : PV → Sto → Prop} : wq (mVar i) S P ↔ (∃ x, S[i]? = some (some (.p x)) ∧ P x S) ∨ ∃ x, S[i]? = some (some (.o x)) ∧ P x (S.set i (some (.p x))) := by
  constructor
  · rintro ⟨x, S', e, p⟩
    unfold mVar at e
    split at e
    · rename_i y h
      cases e
      exact .inl ⟨_, h, p⟩
    · rename_i y h
      cases e
      exact .inr ⟨_, h, p⟩
    · cases e
  · rintro (⟨x, h, p⟩ | ⟨x, h, p⟩)
    · exact ⟨x, S, by unfold mVar; rw [h], p⟩
    · exact ⟨x, _, by unfold mVar; rw [h], p⟩
theorem wq_put {i : Nat} {x : PV} {P : Unit → Sto → Prop} : wq (put i x) S P ↔ (S[i]? = some none ∨ (∃ y, S[i]? = some (some (.p y))) ∨ ∃ y, S[i]? = some (some (.o y))) ∧ P () (S.set i (some (.p x))) := by
  constructor
  · rintro ⟨u, S', e, p⟩
    unfold put at e
    split at e
    · cases e
    · cases e
    · rename_i h1 h2
      cases e
      refine ⟨?_, p⟩
      cases q : S[i]? with
      | none => exact absurd q h2
      | some o =>
        cases o with
        | none => exact .inl rfl
        | some v =>
          cases v with
          | p y => exact .inr (.inl ⟨y, rfl⟩)
          | o y => exact .inr (.inr ⟨y, rfl⟩)
          | i y => exact absurd q (h1 y)
  · rintro ⟨h, p⟩
    refine ⟨(), S.set i (some (.p x)), ?_, p⟩
    unfold put
    rcases h with h | ⟨y, h⟩ | ⟨y, h⟩ <;> rw [h]
theorem wq_putO {i : Nat} {x : PV} {P : Unit → Sto → Prop} : wq (putO i x) S P ↔ (S[i]? = some none ∨ (∃ y, S[i]? = some (some (.p y))) ∨ ∃ y, S[i]? = some (some (.o y))) ∧ P () (S.set i (some (.o x))) := by
  constructor
  · rintro ⟨u, S', e, p⟩
    unfold putO at e
    split at e
    · cases e
    · cases e
    · rename_i h1 h2
      cases e
      refine ⟨?_, p⟩
      cases q : S[i]? with
      | none => exact absurd q h2
      | some o =>
        cases o with
        | none => exact .inl rfl
        | some v =>
          cases v with
          | p y => exact .inr (.inl ⟨y, rfl⟩)
          | o y => exact .inr (.inr ⟨y, rfl⟩)
          | i y => exact absurd q (h1 y)
  · rintro ⟨h, p⟩
    refine ⟨(), S.set i (some (.o x)), ?_, p⟩
    unfold putO
    rcases h with h | ⟨y, h⟩ | ⟨y, h⟩ <;> rw [h]
theorem wq_mSet {i : Nat} {m : M PV} {P : Fl → Sto → Prop} : wq (mSet i m) S P ↔ wq m S fun x S1 => wq (put i x) S1 fun _ S2 => P .nx S2 := by
  unfold mSet
  simp only [wq_bnd, wq_ret]
theorem wq_mSetO {i : Nat} {m : M PV} {P : Fl → Sto → Prop} : wq (mSetO i m) S P ↔ wq m S fun x S1 => wq (putO i x) S1 fun _ S2 => P .nx S2 := by
  unfold mSetO
  simp only [wq_bnd, wq_ret]
theorem wq_mDct {P : PV → Sto → Prop} : wq mDct S P ↔ P (.dct []) S := wq_ret
theorem pk_iff {i : Nat} {x : PV} : pk i S = some x ↔ S[i]? = some (some (.p x)) ∨ S[i]? = some (some (.o x)) ∨ S[i]? = some (some (.i x)) := by
  unfold pk
  constructor
  · intro h
    split at h
    · rename_i y e; cases h; exact .inl e
    · rename_i y e; cases h; exact .inr (.inl e)
    · rename_i y e; cases h; exact .inr (.inr e)
    · cases h
  · rintro (h | h | h) <;> rw [h]
theorem wq_guardPk {i : Nat} {m : M α} {P : α → Sto → Prop} : wq (guardPk i m) S P ↔ (∃ x, pk i S = some x) ∧ wq m S P := by
  unfold guardPk
  constructor
  · rintro ⟨y, S', e, p⟩
    try dsimp only at e
    split at e
    · rename_i x h
      exact ⟨⟨x, h⟩, y, S', e, p⟩
    · cases e
  · rintro ⟨⟨x, h⟩, y, S', e, p⟩
    refine ⟨y, S', ?_, p⟩
    dsimp only
    rw [h]
    exact e
theorem wq_opk {i : Nat} {f : PV → Option PV} {P : PV → Sto → Prop} : wq (opk i f) S P ↔ ∃ x z, pk i S = some x ∧ f x = some z ∧ z.atom = true ∧ P z S := by
  constructor
  · rintro ⟨y, S', e, p⟩
    obtain ⟨x, z, h1, h2, h3, h4⟩ := opk_some e
    cases h4
    exact ⟨x, y, h1, h2, h3, p⟩
  · rintro ⟨x, z, h1, h2, h3, p⟩
    refine ⟨z, S, ?_, p⟩
    unfold opk
    rw [h1]
    dsimp only
    rw [h2]
    dsimp only
    rw [if_pos h3]
theorem wq_mCBV {g : List PV → Option PV} {i : Nat} {P : PV → Sto → Prop} : wq (mCBV g i) S P ↔ ∃ x z, pk i S = some x ∧ g [x] = some z ∧ z.atom = true ∧ P z S := wq_opk
theorem wq_mBinL {g : PV → PV → Option PV} {i : Nat} {mb : M PV} {P : PV → Sto → Prop} : wq (mBinL g i mb) S P ↔ (∃ x, pk i S = some x) ∧ wq mb S fun y S1 => ∃ x z, pk i S1 = some x ∧ g x y = some z ∧ z.atom = true ∧ P z S1 := by
  unfold mBinL
  simp only [wq_guardPk, wq_bnd, wq_opk]
theorem wq_mBinR {g : PV → PV → Option PV} {i : Nat} {ma : M PV} {P : PV → Sto → Prop} : wq (mBinR g ma i) S P ↔ wq ma S fun x S1 => ∃ y z, pk i S1 = some y ∧ g x y = some z ∧ z.atom = true ∧ P z S1 := by
  unfold mBinR
  simp only [wq_bnd, wq_opk]
theorem wq_mIxV {i : Nat} {mk : M PV} {P : PV → Sto → Prop} : wq (mIxV i mk) S P ↔ (∃ x, pk i S = some x) ∧ wq mk S fun y S1 => ∃ x z, pk i S1 = some x ∧ pIx x y = some z ∧ P z S1 := by
  unfold mIxV
  rw [wq_guardPk, wq_bnd]
  refine and_congr_right fun _ => ?_
  constructor
  · rintro ⟨y, S1, h, z, S', e, p⟩
    refine ⟨y, S1, h, ?_⟩
    dsimp only at e
    cases h1 : pk i S1 with
    | none => rw [h1] at e; cases e
    | some x =>
      rw [h1] at e
      dsimp only at e
      cases h2 : pIx x y with
      | none => rw [h2] at e; cases e
      | some u =>
        rw [h2] at e
        cases e
        exact ⟨x, z, h1, h2, p⟩
  · rintro ⟨y, S1, h, x, z, h1, h2, p⟩
    refine ⟨y, S1, h, z, S1, ?_, p⟩
    dsimp only
    rw [h1]
    dsimp only
    rw [h2]
theorem wq_mFldV {i c : Nat} {f : Str} {P : PV → Sto → Prop} : wq (mFldV i c f) S P ↔ ∃ x z, pk i S = some x ∧ pFld c f x = some z ∧ P z S := by
  constructor
  · rintro ⟨z, S', e, p⟩
    unfold mFldV at e
    split at e
    · rename_i x h
      split at e
      · rename_i u hu
        cases e
        exact ⟨x, z, h, hu, p⟩
      · cases e
    · cases e
  · rintro ⟨x, z, h, hu, p⟩
    refine ⟨z, S, ?_, p⟩
    unfold mFldV
    rw [h]
    dsimp only
    rw [hu]
theorem wq_mTruV {i : Nat} {P : Bool → Sto → Prop} : wq (mTruV i) S P ↔ ∃ x z, pk i S = some x ∧ truP x = some z ∧ P z S := by
  constructor
  · rintro ⟨z, S', e, p⟩
    unfold mTruV at e
    split at e
    · rename_i x h
      split at e
      · rename_i u hu
        cases e
        exact ⟨x, z, h, hu, p⟩
      · cases e
    · cases e
  · rintro ⟨x, z, h, hu, p⟩
    refine ⟨z, S, ?_, p⟩
    unfold mTruV
    rw [h]
    dsimp only
    rw [hu]
def chg (i : Nat) (S : Sto) (R : PV → PV → (SV → Sto → Prop) → Prop) : Prop := True
theorem wq_updO {i : Nat} {f : PV → Option PV} {P : Unit → Sto → Prop} : wq (updO i f) S P ↔ (∃ x x', S[i]? = some (some (.o x)) ∧ f x = some x' ∧ P () (S.set i (some (.o x')))) ∨ ∃ x x', S[i]? = some (some (.i x)) ∧ f x = some x' ∧ P () (S.set i (some (.i x'))) := by
  constructor
  · rintro ⟨z, S', e, p⟩
    unfold updO at e
    split at e
    · rename_i x h
      split at e
      · rename_i u hu
        cases e
        exact .inl ⟨x, u, h, hu, p⟩
      · cases e
    · rename_i x h
      split at e
      · rename_i u hu
        cases e
        exact .inr ⟨x, u, h, hu, p⟩
      · cases e
    · cases e
  · rintro (⟨x, u, h, hu, p⟩ | ⟨x, u, h, hu, p⟩)
    · refine ⟨(), _, ?_, p⟩
      unfold updO
      rw [h]
      dsimp only
      rw [hu]
    · refine ⟨(), _, ?_, p⟩
      unfold updO
      rw [h]
      dsimp only
      rw [hu]
theorem wq_updR {i : Nat} {f : PV → Option (PV × PV)} {P : PV → Sto → Prop} : wq (updR i f) S P ↔ (∃ x x' z, S[i]? = some (some (.o x)) ∧ f x = some (x', z) ∧ P z (S.set i (some (.o x')))) ∨ ∃ x x' z, S[i]? = some (some (.i x)) ∧ f x = some (x', z) ∧ P z (S.set i (some (.i x'))) := by
  constructor
  · rintro ⟨z, S', e, p⟩
    unfold updR at e
    split at e
    · rename_i x h
      split at e
      · rename_i u v hu
        cases e
        exact .inl ⟨x, u, z, h, hu, p⟩
      · cases e
    · rename_i x h
      split at e
      · rename_i u v hu
        cases e
        exact .inr ⟨x, u, z, h, hu, p⟩
      · cases e
    · cases e
  · rintro (⟨x, u, v, h, hu, p⟩ | ⟨x, u, v, h, hu, p⟩)
    · refine ⟨v, _, ?_, p⟩
      unfold updR
      rw [h]
      dsimp only
      rw [hu]
    · refine ⟨v, _, ?_, p⟩
      unfold updR
      rw [h]
      dsimp only
      rw [hu]
theorem wq_mPut {i : Nat} {mk me : M PV} {P : Fl → Sto → Prop} : wq (mPut i mk me) S P ↔ wq me S fun v S1 => (∃ x, pk i S1 = some x) ∧ wq mk S1 fun k S2 => wq (updO i fun x => pPut x k v) S2 fun _ S3 => P .nx S3 := by
  unfold mPut
  simp only [wq_bnd, wq_guardPk, wq_ret]
theorem wq_mSetF {i c : Nat} {f : Str} {me : M PV} {P : Fl → Sto → Prop} : wq (mSetF i c f me) S P ↔ wq me S fun v S1 => wq (updO i (pSetF c f v)) S1 fun _ S2 => P .nx S2 := by
  unfold mSetF
  simp only [wq_bnd, wq_ret]
theorem wq_mMt {T : String} {i : Nat} {f : PV → List PV → Option (PV × PV)} {ms : List (M PV)} {P : PV → Sto → Prop} : wq (mMt T i f ms) S P ↔ isOT T i S = true ∧ wq (mArgs ms) S fun xs S1 => wq (updR i fun x => f x xs) S1 P := by
  unfold mMt
  constructor
  · rintro ⟨z, S', e, p⟩
    try dsimp only at e
    split at e
    · rename_i h
      exact ⟨h, wq_bnd.mp ⟨z, S', e, p⟩⟩
    · cases e
  · rintro ⟨h, q⟩
    obtain ⟨z, S', e, p⟩ := wq_bnd.mpr q
    exact ⟨z, S', by dsimp only; rw [if_pos h]; exact e, p⟩
theorem wq_mApp {i : Nat} {m : M PV} {P : Fl → Sto → Prop} : wq (mApp i m) S P ↔ isOT "list" i S = true ∧ wq m S fun x S1 => wq (updR i fun l => fApp l [x]) S1 fun _ S2 => P .nx S2 := by
  unfold mApp
  simp only [wq_mDrop, wq_mMt, wq_mArgs_cons, wq_mArgs_nil]
theorem wq_mIn {i : Nat} {h : PV → Option (PV × RO)} {P : PV → Sto → Prop} : wq (mIn i h) S P ↔ (∃ x x' z, S[i]? = some (some (.o x)) ∧ h x = some (x', .ret z) ∧ P z (S.set i (some (.o x')))) ∨ ∃ x x' z, S[i]? = some (some (.i x)) ∧ h x = some (x', .ret z) ∧ P z (S.set i (some (.i x'))) := by
  constructor
  · rintro ⟨z, S', e, p⟩
    unfold mIn at e
    split at e
    · rename_i x h
      split at e
      · rename_i u v hu
        cases e
        exact .inl ⟨x, u, z, h, hu, p⟩
      · cases e
      · cases e
    · rename_i x h
      split at e
      · rename_i u v hu
        cases e
        exact .inr ⟨x, u, z, h, hu, p⟩
      · cases e
      · cases e
    · cases e
  · rintro (⟨x, u, v, h, hu, p⟩ | ⟨x, u, v, h, hu, p⟩)
    · refine ⟨v, _, ?_, p⟩
      unfold mIn
      rw [h]
      dsimp only
      rw [hu]
    · refine ⟨v, _, ?_, p⟩
      unfold mIn
      rw [h]
      dsimp only
      rw [hu]
theorem wq_mCallI {i : Nat} {f : PV → List PV → Option (PV × RO)} {ms : List (M PV)} {P : PV → Sto → Prop} : wq (mCallI i f ms) S P ↔ isO i S = true ∧ wq (mArgs ms) S fun xs S1 => wq (mIn i fun x => f x xs) S1 P := by
  unfold mCallI
  constructor
  · rintro ⟨z, S', e, p⟩
    try dsimp only at e
    split at e
    · rename_i h
      exact ⟨h, wq_bnd.mp ⟨z, S', e, p⟩⟩
    · cases e
  · rintro ⟨h, q⟩
    obtain ⟨z, S', e, p⟩ := wq_bnd.mpr q
    exact ⟨z, S', by dsimp only; rw [if_pos h]; exact e, p⟩
theorem wq_mkM {h : PV → Option (PV × RO)} {c : Nat} {P : PV → Sto → Prop} : wq (mkM h c) S P ↔ ∃ x', h (.obj c []) = some (x', .ret .non) ∧ P x' S := by
  constructor
  · rintro ⟨z, S', e, p⟩
    unfold mkM at e
    split at e
    · rename_i u hu
      cases e
      exact ⟨z, hu, p⟩
    · cases e
    · cases e
  · rintro ⟨x, hu, p⟩
    refine ⟨x, S, ?_, p⟩
    unfold mkM
    rw [hu]
theorem wq_mMake {c : Nat} {f : PV → List PV → Option (PV × RO)} {ms : List (M PV)} {P : PV → Sto → Prop} : wq (mMake c f ms) S P ↔ wq (mArgs ms) S fun xs S1 => ∃ x', f (.obj c []) xs = some (x', .ret .non) ∧ P x' S1 := by
  unfold mMake
  simp only [wq_bnd, wq_mkM]
theorem wq_mMake0 {c : Nat} {f : PV → List PV → Option (PV × RO)} {ds : List PV} {P : PV → Sto → Prop} : wq (mMake0 c f ds) S P ↔ ∃ x', f (.obj c []) ds = some (x', .ret .non) ∧ P x' S := by
  unfold mMake0
  simp only [wq_mkM]
theorem wq_mMakeV {i c : Nat} {f : PV → List PV → Option (PV × RO)} {ms : List (M PV)} {P : PV → Sto → Prop} : wq (mMakeV i c f ms) S P ↔ S[i]? = some (some (.p (.glb c))) ∧ wq (mMake c f ms) S P := by
  constructor
  · rintro ⟨z, S', e, p⟩
    unfold mMakeV at e
    split at e
    · rename_i d h
      split at e
      · rename_i hd
        subst hd
        exact ⟨h, z, S', e, p⟩
      · cases e
    · cases e
  · rintro ⟨h, z, S', e, p⟩
    refine ⟨z, S', ?_, p⟩
    unfold mMakeV
    rw [h]
    dsimp only
    rw [if_pos rfl]
    exact e
theorem wq_mMeth {c : Nat} {m : Str} {f : List PV → Option RO} {mo : M PV} {ms : List (M PV)} {P : PV → Sto → Prop} : wq (mMeth c m f mo ms) S P ↔ wq mo S fun x S1 => ∃ fs, x = .obj c fs ∧ fs.lookup m = none ∧ wq (mArgs ms) S1 fun xs S2 => ∃ y, f (.obj c fs :: xs) = some (.ret y) ∧ P y S2 := by
  unfold mMeth
  rw [wq_bnd]
  constructor
  · rintro ⟨x, S1, e, q⟩
    refine ⟨x, S1, e, ?_⟩
    split at q
    · rename_i d fs
      split at q
      · rename_i hd
        obtain ⟨rfl, hl⟩ := hd
        exact ⟨fs, rfl, hl, by simpa only [wq_bnd, wq_roM] using q⟩
      · exact (wq_none.mp q).elim
    · exact (wq_none.mp q).elim
  · rintro ⟨x, S1, e, fs, rfl, hl, q⟩
    refine ⟨_, S1, e, ?_⟩
    dsimp only
    rw [if_pos ⟨rfl, hl⟩]
    simpa only [wq_bnd, wq_roM] using q
theorem wq_mCallO {c : Nat} {f : List PV → Option RO} {mo : M PV} {ms : List (M PV)} {P : PV → Sto → Prop} : wq (mCallO c f mo ms) S P ↔ wq mo S fun x S1 => ∃ fs, x = .obj c fs ∧ wq (mArgs ms) S1 fun xs S2 => ∃ y, f (.obj c fs :: xs) = some (.ret y) ∧ P y S2 := by
  unfold mCallO
  rw [wq_bnd]
  constructor
  · rintro ⟨x, S1, e, q⟩
    refine ⟨x, S1, e, ?_⟩
    split at q
    · rename_i d fs
      split at q
      · rename_i hd
        subst hd
        exact ⟨fs, rfl, by simpa only [wq_bnd, wq_roQ] using q⟩
      · exact (wq_none.mp q).elim
    · exact (wq_none.mp q).elim
  · rintro ⟨x, S1, e, fs, rfl, q⟩
    refine ⟨_, S1, e, ?_⟩
    dsimp only
    rw [if_pos rfl]
    simpa only [wq_bnd, wq_roQ] using q
theorem wq_mNoB {P : Option Int → Sto → Prop} : wq mNoB S P ↔ P none S := wq_ret
theorem wq_mBd {m : M PV} {P : Option Int → Sto → Prop} : wq (mBd m) S P ↔ wq m S fun x S1 => ∃ i, x = .int i ∧ P (some i) S1 := by
  unfold mBd
  rw [wq_bnd]
  constructor
  · rintro ⟨x, S1, e, q⟩
    refine ⟨x, S1, e, ?_⟩
    split at q
    · exact ⟨_, rfl, wq_ret.mp q⟩
    · exact (wq_none.mp q).elim
  · rintro ⟨x, S1, e, i, rfl, q⟩
    exact ⟨_, S1, e, wq_ret.mpr q⟩
theorem wq_mSl {m : M PV} {lo hi : M (Option Int)} {P : PV → Sto → Prop} : wq (mSl m lo hi) S P ↔ wq m S fun x S1 => wq lo S1 fun a S2 => wq hi S2 fun b S3 => ∃ z, pSl x a b = some z ∧ P z S3 := by
  unfold mSl
  simp only [wq_bnd, wq_lift]
theorem wq_mRng1 {m : M PV} {P : List PV → Sto → Prop} : wq (mRng1 m) S P ↔ wq m S fun x S1 => ∃ j, x = .int j ∧ inR j = true ∧ P (rangeP 0 j.toNat) S1 := by
  unfold mRng1
  rw [wq_bnd]
  constructor
  · rintro ⟨x, S1, e, q⟩
    refine ⟨x, S1, e, ?_⟩
    split at q
    · split at q
      · rename_i h
        exact ⟨_, rfl, h, wq_ret.mp q⟩
      · exact (wq_none.mp q).elim
    · exact (wq_none.mp q).elim
  · rintro ⟨x, S1, e, i, rfl, h, q⟩
    refine ⟨_, S1, e, ?_⟩
    dsimp only
    rw [if_pos h]
    exact wq_ret.mpr q
theorem wq_mRng2 {m n : M PV} {P : List PV → Sto → Prop} : wq (mRng2 m n) S P ↔ wq m S fun x S1 => wq n S1 fun y S2 => ∃ i j, x = .int i ∧ y = .int j ∧ inR i = true ∧ inR j = true ∧ P (rangeP i (j - i).toNat) S2 := by
  unfold mRng2
  simp only [wq_bnd]
  constructor
  · rintro ⟨x, S1, e, y, S2, e2, q⟩
    refine ⟨x, S1, e, y, S2, e2, ?_⟩
    split at q
    · split at q
      · rename_i h
        exact ⟨_, _, rfl, rfl, h.1, h.2, wq_ret.mp q⟩
      · exact (wq_none.mp q).elim
    · exact (wq_none.mp q).elim
  · rintro ⟨x, S1, e, y, S2, e2, i, j, rfl, rfl, h1, h2, q⟩
    refine ⟨_, S1, e, _, S2, e2, ?_⟩
    dsimp only
    rw [if_pos ⟨h1, h2⟩]
    exact wq_ret.mpr q
def itA : PV → Option (List PV)
  | .lst xs => some xs
  | .frl ns => some (ns.map PV.int)
  | .tup xs => some xs
  | .str z => some (charsP z)
  | _ => none
theorem wq_mIterA {m : M PV} {P : List PV → Sto → Prop} : wq (mIterA m) S P ↔ wq m S fun x S1 => ∃ ys, itA x = some ys ∧ P ys S1 := by
  unfold mIterA
  rw [wq_bnd]
  have e : (fun (x : PV) S1 => wq (match x with | .lst xs => ret xs | .frl ns => ret (ns.map PV.int) | .tup xs => ret xs | .str z => ret (charsP z) | _ => fun _ => none) S1 P) = fun x S1 => ∃ ys, itA x = some ys ∧ P ys S1 := by
    funext x S1
    apply propext
    cases x <;> simp [itA]
  rw [← e]
  all_goals rfl
theorem wq_mChain {g g' : PV → PV → Option PV} {ma mb mc : M PV} {P : PV → Sto → Prop} : wq (mChain g g' ma mb mc) S P ↔ wq ma S fun x S1 => wq mb S1 fun y S2 => ∃ b, g x y = some (.bl b) ∧ (b = true → wq mc S2 fun u S3 => ∃ z, g' y u = some z ∧ P z S3) ∧ (b = false → P (.bl false) S2) := by
  unfold mChain
  simp only [wq_bnd, wq_lift]
  have e : ∀ (y : PV) (o : Option PV) (S2 : Sto), (∃ z, o = some z ∧ wq (asB z) S2 fun b S3 => wq (if b = true then bnd mc fun u => lift (g' y u) else ret (.bl false)) S3 P) ↔ ∃ b, o = some (.bl b) ∧ (b = true → wq mc S2 fun u S3 => ∃ z, g' y u = some z ∧ P z S3) ∧ (b = false → P (.bl false) S2) := by
    intro y o S2
    constructor
    · rintro ⟨z, rfl, q⟩
      cases z <;> simp only [asB, wq_none, wq_ret] at q
      rename_i b
      refine ⟨b, rfl, ?_⟩
      cases b <;> simpa [wq_bnd, wq_lift] using q
    · rintro ⟨b, rfl, q⟩
      refine ⟨_, rfl, ?_⟩
      simp only [asB, wq_ret]
      cases b <;> simpa [wq_bnd, wq_lift] using q
  simp only [e]
theorem wq_mGet2 {mo mk md : M PV} {P : PV → Sto → Prop} : wq (mGet2 mo mk md) S P ↔ wq mo S fun x S1 => isDct x = true ∧ wq mk S1 fun k S2 => wq md S2 fun d S3 => ∃ z, pGet x k d = some z ∧ P z S3 := by
  unfold mGet2
  rw [wq_bnd]
  constructor
  · rintro ⟨x, S1, e, q⟩
    refine ⟨x, S1, e, ?_⟩
    split at q
    · rename_i h
      exact ⟨h, by simpa only [wq_bnd, wq_lift] using q⟩
    · exact (wq_none.mp q).elim
  · rintro ⟨x, S1, e, h, q⟩
    refine ⟨_, S1, e, ?_⟩
    dsimp only
    rw [if_pos h]
    simpa only [wq_bnd, wq_lift] using q
theorem wq_mBinS {g : PV → PV → Option PV} {mo me : M PV} {P : PV → Sto → Prop} : wq (mBinS g mo me) S P ↔ wq mo S fun x S1 => isStr x = true ∧ wq me S1 fun y S2 => ∃ z, g x y = some z ∧ P z S2 := by
  unfold mBinS
  rw [wq_bnd]
  constructor
  · rintro ⟨x, S1, e, q⟩
    refine ⟨x, S1, e, ?_⟩
    split at q
    · rename_i h
      exact ⟨h, by simpa only [wq_bnd, wq_lift] using q⟩
    · exact (wq_none.mp q).elim
  · rintro ⟨x, S1, e, h, q⟩
    refine ⟨_, S1, e, ?_⟩
    dsimp only
    rw [if_pos h]
    simpa only [wq_bnd, wq_lift] using q
theorem wq_mAsg {m : M PV} {g : PV → Sto → Option Sto} {P : Fl → Sto → Prop} : wq (mAsg m g) S P ↔ wq m S fun x S1 => ∃ S2, g x S1 = some S2 ∧ P .nx S2 := by
  unfold mAsg
  rw [wq_bnd]
  constructor
  · rintro ⟨x, S1, e, y, S2, e2, p⟩
    refine ⟨x, S1, e, ?_⟩
    dsimp only at e2
    split at e2
    · rename_i S3 h
      cases e2
      exact ⟨_, h, p⟩
    · cases e2
  · rintro ⟨x, S1, e, S2, h, p⟩
    refine ⟨x, S1, e, .nx, S2, ?_, p⟩
    dsimp only
    rw [h]
/-! #### loops -/
def trn (k : Sto → Prop) (P : Fl → Sto → Prop) : Fl → Sto → Prop
  | .nx, S => k S
  | .ct, S => k S
  | .bk, S => P .nx S
  | .rt y, S => P (.rt y) S
theorem trn_nx {k : Sto → Prop} {P : Fl → Sto → Prop} : trn k P .nx S ↔ k S := Iff.rfl
theorem trn_ct {k : Sto → Prop} {P : Fl → Sto → Prop} : trn k P .ct S ↔ k S := Iff.rfl
theorem trn_bk {k : Sto → Prop} {P : Fl → Sto → Prop} : trn k P .bk S ↔ P .nx S := Iff.rfl
theorem trn_rt {k : Sto → Prop} {P : Fl → Sto → Prop} {y : PV} : trn k P (.rt y) S ↔ P (.rt y) S := Iff.rfl
theorem wq_loop {g : PV → Sto → Option Sto} {m : M Fl} {P : Fl → Sto → Prop} (I : List PV → Sto → Prop) (h0 : ∀ S, I [] S → P .nx S)
    (h1 : ∀ y ys S, I (y :: ys) S → ∃ S1, g y S = some S1 ∧ wq m S1 (trn (I ys) P)) : ∀ {ys : List PV} {S : Sto}, I ys S → wq (loop g m ys) S P
  | [], S, h => wq_ret.mpr (h0 S h)
  | y :: ys, S, h => by
    obtain ⟨S1, e1, f, S2, e2, q⟩ := h1 y ys S h
    have step : loop g m (y :: ys) S = match m S1 with
      | none => none
      | some (.ok .nx S2) => loop g m ys S2
      | some (.ok .ct S2) => loop g m ys S2
      | some (.ok .bk S2) => some (.ok .nx S2)
      | some r => some r := by
      show (match g y S with | none => none | some S1 => _) = _
      rw [e1]
      all_goals rfl
    cases f with
    | nx =>
      obtain ⟨x, S', e, p⟩ := wq_loop I h0 h1 (ys := ys) (S := S2) q
      exact ⟨x, S', by rw [step, e2]; exact e, p⟩
    | ct =>
      obtain ⟨x, S', e, p⟩ := wq_loop I h0 h1 (ys := ys) (S := S2) q
      exact ⟨x, S', by rw [step, e2]; exact e, p⟩
    | bk => exact ⟨.nx, S2, by rw [step, e2], q⟩
    | rt y => exact ⟨.rt y, S2, by rw [step, e2], q⟩
theorem wq_mFor {mi : M (List PV)} {g : PV → Sto → Option Sto} {m : M Fl} {P : Fl → Sto → Prop} : wq (mFor mi g m) S P ↔ wq mi S fun ys S1 => wq (loop g m ys) S1 P := by
  unfold mFor
  constructor
  · rintro ⟨x, S', e, p⟩
    try dsimp only at e
    split at e
    · rename_i ys S1 e1
      exact ⟨ys, S1, e1, x, S', e, p⟩
    · cases e
  · rintro ⟨ys, S1, e1, x, S', e, p⟩
    refine ⟨x, S', ?_, p⟩
    dsimp only
    rw [e1]
    exact e
/-! #### comprehensions -/
theorem lcGo_inv {vs : List Nat} {g : PV → Sto → Option Sto} {mt : M Bool} {me : M PV} (I : List PV → List PV → Sto → Prop)
    (h1 : ∀ y ys acc S, I (y :: ys) acc S → ∃ S1, g y S = some S1 ∧ wq mt S1 fun b S2 => (b = true → wq me S2 fun z S3 => I ys (acc ++ [z]) (wipeS S3 vs)) ∧ (b = false → I ys acc (wipeS S2 vs))) :
    ∀ {ys acc : List PV} {S : Sto}, I ys acc S → ∃ zs S', lcGo vs g mt me ys S = some (zs, S') ∧ I [] (acc ++ zs) S'
  | [], acc, S, h => ⟨[], S, rfl, by rw [List.append_nil]; exact h⟩
  | y :: ys, acc, S, h => by
    obtain ⟨S1, e1, b, S2, e2, qt, qf⟩ := h1 y ys acc S h
    cases b with
    | true =>
      obtain ⟨z, S3, e3, q⟩ := qt rfl
      obtain ⟨zs, S4, e4, q4⟩ := lcGo_inv I h1 q
      refine ⟨z :: zs, S4, ?_, by rw [List.append_assoc] at q4; exact q4⟩
      unfold lcGo
      rw [e1]
      dsimp only
      rw [e2]
      dsimp only
      rw [e3]
      dsimp only
      rw [e4]
    | false =>
      obtain ⟨zs, S4, e4, q4⟩ := lcGo_inv I h1 (qf rfl)
      refine ⟨zs, S4, ?_, q4⟩
      unfold lcGo
      rw [e1]
      dsimp only
      rw [e2]
      dsimp only
      exact e4
theorem wq_mLc {vs : List Nat} {mi : M (List PV)} {g : PV → Sto → Option Sto} {mt : M Bool} {me : M PV} {P : PV → Sto → Prop} : wq (mLc vs mi g mt me) S P ↔ wq mi S fun ys S1 => ys.length ≤ sizeLine ∧ plainAt S1 vs = true ∧ ∃ zs S2, lcGo vs g mt me ys (wipeS S1 vs) = some (zs, S2) ∧ P (.lst zs) (backS S1 S2 vs) := by
  unfold mLc
  constructor
  · rintro ⟨x, S', e, p⟩
    try dsimp only at e
    split at e
    · rename_i ys S1 e1
      split at e
      · rename_i h
        split at e
        · rename_i zs S2 e2
          cases e
          exact ⟨ys, S1, e1, h.1, h.2, zs, S2, e2, p⟩
        · cases e
      · cases e
    · cases e
  · rintro ⟨ys, S1, e1, h1, h2, zs, S2, e2, p⟩
    refine ⟨.lst zs, backS S1 S2 vs, ?_, p⟩
    dsimp only
    rw [e1]
    dsimp only
    rw [if_pos ⟨h1, h2⟩, e2]
theorem lcGo_pure {vs : List Nat} {g : PV → Sto → Option Sto} {mt : M Bool} {me : M PV} {S : Sto} (t : PV → Bool) (f : PV → PV) :
    ∀ {ys : List PV}, (∀ y ∈ ys, ∃ S1, g y S = some S1 ∧ wq mt S1 fun b S2 => b = t y ∧ (b = true → wq me S2 fun z S3 => z = f y ∧ wipeS S3 vs = S) ∧ (b = false → wipeS S2 vs = S)) → lcGo vs g mt me ys S = some ((ys.filter t).map f, S)
  | [], _ => rfl
  | y :: ys, h => by
    obtain ⟨S1, e1, b, S2, e2, eb, qt, qf⟩ := h y List.mem_cons_self
    have ih := lcGo_pure t f (ys := ys) fun z hz => h z (List.mem_cons_of_mem _ hz)
    cases b with
    | true =>
      obtain ⟨z, S3, e3, ez, ew⟩ := qt rfl
      unfold lcGo
      rw [e1]
      dsimp only
      rw [e2]
      dsimp only
      rw [e3]
      dsimp only
      rw [ew, ih]
      dsimp only
      rw [List.filter_cons, ← eb, if_pos rfl, List.map_cons, ez]
    | false =>
      unfold lcGo
      rw [e1]
      dsimp only
      rw [e2]
      dsimp only
      rw [qf rfl, ih, List.filter_cons, ← eb, if_neg Bool.false_ne_true]
end
/-! #### defs -/
def rtP (P : PV → Prop) : Fl → Sto → Prop
  | .rt y, _ => P y
  | .nx, _ => P .non
  | _, _ => False
theorem rtP_rt {P : PV → Prop} {y : PV} {S : Sto} : rtP P (.rt y) S ↔ P y := Iff.rfl
theorem rtP_nx {P : PV → Prop} {S : Sto} : rtP P .nx S ↔ P .non := Iff.rfl
theorem runP_wq {N : Nat} {m : M Fl} {xs : List PV} {P : PV → Prop} (h : wq m (stoP N xs) (rtP P)) : ∃ y, runP N m xs = some (.ret y) ∧ P y := by
  obtain ⟨f, S', e, p⟩ := h
  unfold runP
  rw [e]
  cases f with
  | nx => exact ⟨_, rfl, p⟩
  | rt y => exact ⟨_, rfl, p⟩
  | bk => exact p.elim
  | ct => exact p.elim
theorem runP_eq {N : Nat} {m : M Fl} {xs : List PV} {v : PV} (h : wq m (stoP N xs) (rtP (· = v))) : runP N m xs = some (.ret v) := by
  obtain ⟨y, e, rfl⟩ := runP_wq h
  exact e
def rtI (P : PV → PV → Prop) : Fl → Sto → Prop
  | .rt y, some (.i x) :: _ => P x y
  | .nx, some (.i x) :: _ => P x .non
  | _, _ => False
theorem rtI_rt {P : PV → PV → Prop} {x y : PV} {S : Sto} : rtI P (.rt y) (some (.i x) :: S) ↔ P x y := Iff.rfl
theorem rtI_nx {P : PV → PV → Prop} {x : PV} {S : Sto} : rtI P .nx (some (.i x) :: S) ↔ P x .non := Iff.rfl
theorem runI_wq {N : Nat} {m : M Fl} {x : PV} {xs : List PV} {P : PV → PV → Prop} (h : wq m (some (.i x) :: stoP (N - 1) xs) (rtI P)) : ∃ x' y, runI N m x xs = some (x', .ret y) ∧ P x' y := by
  obtain ⟨f, S', e, p⟩ := h
  unfold runI
  rw [e]
  unfold rtI at p
  split at p
  · exact ⟨_, _, rfl, p⟩
  · exact ⟨_, _, rfl, p⟩
  · exact p.elim
theorem runO_wq {N : Nat} {m : M PV} {xs : List PV} {P : PV → Prop} (h : wq m (stoP N xs) (fun y _ => P y)) : ∃ y, runO N m xs = some (.ret y) ∧ P y := by
  obtain ⟨f, S', e, p⟩ := h
  unfold runO
  rw [e]
  exact ⟨_, rfl, p⟩
end Kp
set_option Elab.async false
set_option linter.all false
set_option maxRecDepth 100000
set_option maxHeartbeats 4000000
namespace Kp
open PySem L2
/-! ### head first: words that keep what comes behind apart from the store, so that simp goes on only where the store is told -/
abbrev Kt (α : Type) := α → Sto → Prop
def exS {α : Type} (o : Option α) (S : Sto) (P : Kt α) : Prop := ∃ z, o = some z ∧ P z S
def exR (o : Option RO) (S : Sto) (P : Kt PV) : Prop := ∃ z, o = some (.ret z) ∧ P z S
def gdS (b : Bool) (S : Sto) (P : Sto → Prop) : Prop := b = true ∧ P S
def brS {α : Type} (b : Bool) (m n : M α) (S : Sto) (P : Kt α) : Prop := (b = true → wq m S P) ∧ (b = false → wq n S P)
def blE (x : PV) (S : Sto) (P : Kt Bool) : Prop := ∃ b, x = .bl b ∧ P b S
def inE (x : PV) (S : Sto) (P : Kt Int) : Prop := ∃ b, x = .int b ∧ P b S
def obE (c : Nat) (x : PV) (S : Sto) (P : Kt (List (Str × PV))) : Prop := ∃ fs, x = .obj c fs ∧ P fs S
section
variable {α β : Type} {S : Sto}
@[simp] theorem exS_some {z : α} {P : Kt α} : exS (some z) S P ↔ P z S := ⟨fun ⟨_, e, p⟩ => by cases e; exact p, fun p => ⟨z, rfl, p⟩⟩
@[simp] theorem exS_none {P : Kt α} : exS none S P ↔ False := ⟨fun ⟨_, e, p⟩ => (by cases e), False.elim⟩
@[simp] theorem exR_some {z : PV} {P : Kt PV} : exR (some (.ret z)) S P ↔ P z S := ⟨fun ⟨_, e, p⟩ => by cases e; exact p, fun p => ⟨z, rfl, p⟩⟩
@[simp] theorem brS_true {m n : M α} {P : Kt α} : brS true m n S P ↔ wq m S P := ⟨fun h => h.1 rfl, fun a => ⟨fun _ => a, fun q => (by cases q)⟩⟩
@[simp] theorem brS_false {m n : M α} {P : Kt α} : brS false m n S P ↔ wq n S P := ⟨fun h => h.2 rfl, fun a => ⟨fun q => (by cases q), fun _ => a⟩⟩
@[simp] theorem gdS_eq {b : Bool} {P : Sto → Prop} : gdS b S P ↔ b = true ∧ P S := Iff.rfl
@[simp] theorem blE_bl {b : Bool} {P : Kt Bool} : blE (.bl b) S P ↔ P b S := ⟨fun ⟨_, e, p⟩ => by cases e; exact p, fun p => ⟨b, rfl, p⟩⟩
@[simp] theorem inE_int {b : Int} {P : Kt Int} : inE (.int b) S P ↔ P b S := ⟨fun ⟨_, e, p⟩ => by cases e; exact p, fun p => ⟨b, rfl, p⟩⟩
@[simp] theorem obE_obj {c : Nat} {fs : List (Str × PV)} {P : Kt (List (Str × PV))} : obE c (.obj c fs) S P ↔ P fs S := ⟨fun ⟨_, e, p⟩ => by cases e; exact p, fun p => ⟨fs, rfl, p⟩⟩
theorem brS_intro {b : Bool} {m n : M α} {P : Kt α} (h1 : b = true → wq m S P) (h2 : b = false → wq n S P) : brS b m n S P := ⟨h1, h2⟩
end
/-! stores -/
def pkO : Option (Option SV) → Option PV
  | some (some (.p x)) => some x
  | some (some (.o x)) => some x
  | some (some (.i x)) => some x
  | _ => none
@[simp] theorem pkO_p {x : PV} : pkO (some (some (.p x))) = some x := rfl
@[simp] theorem pkO_o {x : PV} : pkO (some (some (.o x))) = some x := rfl
@[simp] theorem pkO_i {x : PV} : pkO (some (some (.i x))) = some x := rfl
theorem pk_eq {i : Nat} {S : Sto} : pk i S = pkO S[i]? := by
  unfold pk pkO
  rfl
def rdV (o : Option (Option SV)) (i : Nat) (S : Sto) (P : Kt PV) : Prop := match o with
  | some (some (.p x)) => P x S
  | some (some (.o x)) => P x (S.set i (some (.p x)))
  | _ => False
@[simp] theorem rdV_p {x : PV} {i : Nat} {S : Sto} {P : Kt PV} : rdV (some (some (.p x))) i S P ↔ P x S := Iff.rfl
@[simp] theorem rdV_o {x : PV} {i : Nat} {S : Sto} {P : Kt PV} : rdV (some (some (.o x))) i S P ↔ P x (S.set i (some (.p x))) := Iff.rfl
def okPut : Option (Option SV) → Bool
  | some none => true
  | some (some (.p _)) => true
  | some (some (.o _)) => true
  | _ => false
@[simp] theorem okPut_n : okPut (some none) = true := rfl
@[simp] theorem okPut_p {x : PV} : okPut (some (some (.p x))) = true := rfl
@[simp] theorem okPut_o {x : PV} : okPut (some (some (.o x))) = true := rfl
theorem okPut_iff {o : Option (Option SV)} : okPut o = true ↔ o = some none ∨ (∃ y, o = some (some (.p y))) ∨ ∃ y, o = some (some (.o y)) := by
  cases o with
  | none => simp [okPut]
  | some o =>
    cases o with
    | none => simp [okPut]
    | some v => cases v <;> simp [okPut]
def ioO : Option (Option SV) → Bool
  | some (some (.o _)) => true
  | some (some (.i _)) => true
  | _ => false
@[simp] theorem ioO_o {x : PV} : ioO (some (some (.o x))) = true := rfl
@[simp] theorem ioO_i {x : PV} : ioO (some (some (.i x))) = true := rfl
theorem isO_eq {i : Nat} {S : Sto} : isO i S = ioO S[i]? := by
  unfold isO ioO
  rfl
def isOTO (T : String) : Option (Option SV) → Bool
  | some (some (.o (.lst _))) => T == "list"
  | some (some (.i (.lst _))) => T == "list"
  | some (some (.o (.dct _))) => T == "dict"
  | some (some (.i (.dct _))) => T == "dict"
  | _ => false
theorem isOT_eq {T : String} {i : Nat} {S : Sto} : isOT T i S = isOTO T S[i]? := by
  unfold isOT isOTO
  rfl
@[simp] theorem isOTO_ol {xs : List PV} : isOTO "list" (some (some (.o (.lst xs)))) = true := rfl
@[simp] theorem isOTO_il {xs : List PV} : isOTO "list" (some (some (.i (.lst xs)))) = true := rfl
@[simp] theorem isOTO_od {xs : List (PV × PV)} : isOTO "dict" (some (some (.o (.dct xs)))) = true := rfl
@[simp] theorem isOTO_id {xs : List (PV × PV)} : isOTO "dict" (some (some (.i (.dct xs)))) = true := rfl
def upB {α : Type} (own : Bool) (o : Option α) (g : α → PV) (i : Nat) (S : Sto) (P : Kt α) : Prop := ∃ y, o = some y ∧ P y (S.set i (some (if own = true then .o (g y) else .i (g y))))
@[simp] theorem upB_o {α : Type} {y : α} {g : α → PV} {i : Nat} {S : Sto} {P : Kt α} : upB true (some y) g i S P ↔ P y (S.set i (some (.o (g y)))) := ⟨fun ⟨_, e, p⟩ => by cases e; exact p, fun p => ⟨y, rfl, p⟩⟩
@[simp] theorem upB_i {α : Type} {y : α} {g : α → PV} {i : Nat} {S : Sto} {P : Kt α} : upB false (some y) g i S P ↔ P y (S.set i (some (.i (g y)))) := ⟨fun ⟨_, e, p⟩ => by cases e; exact p, fun p => ⟨y, rfl, p⟩⟩
def upO {α : Type} (o : Option (Option SV)) (f : PV → Option α) (g : α → PV) (i : Nat) (S : Sto) (P : Kt α) : Prop := match o with
  | some (some (.o x)) => upB true (f x) g i S P
  | some (some (.i x)) => upB false (f x) g i S P
  | _ => False
@[simp] theorem upO_o {α : Type} {x : PV} {f : PV → Option α} {g : α → PV} {i : Nat} {S : Sto} {P : Kt α} : upO (some (some (.o x))) f g i S P ↔ upB true (f x) g i S P := Iff.rfl
@[simp] theorem upO_i {α : Type} {x : PV} {f : PV → Option α} {g : α → PV} {i : Nat} {S : Sto} {P : Kt α} : upO (some (some (.i x))) f g i S P ↔ upB false (f x) g i S P := Iff.rfl
def inB (own : Bool) (o : Option (PV × RO)) (i : Nat) (S : Sto) (P : Kt PV) : Prop := ∃ y z, o = some (y, .ret z) ∧ P z (S.set i (some (if own = true then .o y else .i y)))
@[simp] theorem inB_o {y z : PV} {i : Nat} {S : Sto} {P : Kt PV} : inB true (some (y, .ret z)) i S P ↔ P z (S.set i (some (.o y))) := ⟨fun ⟨_, _, e, p⟩ => by cases e; exact p, fun p => ⟨y, z, rfl, p⟩⟩
@[simp] theorem inB_i {y z : PV} {i : Nat} {S : Sto} {P : Kt PV} : inB false (some (y, .ret z)) i S P ↔ P z (S.set i (some (.i y))) := ⟨fun ⟨_, _, e, p⟩ => by cases e; exact p, fun p => ⟨y, z, rfl, p⟩⟩
def inn (o : Option (Option SV)) (h : PV → Option (PV × RO)) (i : Nat) (S : Sto) (P : Kt PV) : Prop := match o with
  | some (some (.o x)) => inB true (h x) i S P
  | some (some (.i x)) => inB false (h x) i S P
  | _ => False
@[simp] theorem inn_o {x : PV} {f : PV → Option (PV × RO)} {i : Nat} {S : Sto} {P : Kt PV} : inn (some (some (.o x))) f i S P ↔ inB true (f x) i S P := Iff.rfl
@[simp] theorem inn_i {x : PV} {f : PV → Option (PV × RO)} {i : Nat} {S : Sto} {P : Kt PV} : inn (some (some (.i x))) f i S P ↔ inB false (f x) i S P := Iff.rfl
def mkE : Option (PV × RO) → Option PV
  | some (x, .ret .non) => some x
  | _ => none
@[simp] theorem mkE_some {x : PV} : mkE (some (x, .ret .non)) = some x := rfl
section
variable {α β : Type} {S : Sto} {a : Option SV}
@[simp] theorem pk_c {i : Nat} : pk i (a :: S) = pkO (a :: S)[i]? := pk_eq
@[simp] theorem isO_c {i : Nat} : isO i (a :: S) = ioO (a :: S)[i]? := isO_eq
@[simp] theorem isOT_c {T : String} {i : Nat} : isOT T i (a :: S) = isOTO T (a :: S)[i]? := isOT_eq
@[simp] theorem e_ret {x : α} {P : Kt α} : wq (ret x) (a :: S) P ↔ P x (a :: S) := wq_ret
@[simp] theorem e_bnd {m : M α} {k : α → M β} {P : Kt β} : wq (bnd m k) (a :: S) P ↔ wq m (a :: S) fun x S1 => wq (k x) S1 P := wq_bnd
@[simp] theorem e_lift {o : Option α} {P : Kt α} : wq (lift o) (a :: S) P ↔ exS o (a :: S) P := wq_lift
@[simp] theorem e_mNx {P : Kt Fl} : wq (mNx) (a :: S) P ↔ P .nx (a :: S) := wq_ret
@[simp] theorem e_mRet {m : M PV} {P : Kt Fl} : wq (mRet m) (a :: S) P ↔ wq m (a :: S) fun x S1 => P (.rt x) S1 := wq_mRet
@[simp] theorem e_mDrop {m : M PV} {P : Kt Fl} : wq (mDrop m) (a :: S) P ↔ wq m (a :: S) fun x S1 => P .nx S1 := wq_mDrop
@[simp] theorem e_mSeq {m u : M Fl} {P : Kt Fl} : wq (mSeq m u) (a :: S) P ↔ wq m (a :: S) (aft u P) := wq_mSeq
@[simp] theorem e_mIf {c : M Bool} {m n : M Fl} {P : Kt Fl} : wq (mIf c m n) (a :: S) P ↔ wq c (a :: S) fun b S1 => brS b m n S1 P := wq_mIf
@[simp] theorem e_mIfE {c : M Bool} {m n : M PV} {P : Kt PV} : wq (mIfE c m n) (a :: S) P ↔ wq c (a :: S) fun b S1 => brS b m n S1 P := wq_mIfE
@[simp] theorem e_mK {x : PV} {P : Kt PV} : wq (mK x) (a :: S) P ↔ P x (a :: S) := wq_ret
@[simp] theorem e_mBin {g : PV → PV → Option PV} {ma mb : M PV} {P : Kt PV} : wq (mBin g ma mb) (a :: S) P ↔ wq ma (a :: S) fun x S1 => wq mb S1 fun y S2 => exS (g x y) S2 P := wq_mBin
@[simp] theorem e_mTest {m : M PV} {P : Kt Bool} : wq (mTest m) (a :: S) P ↔ wq m (a :: S) fun x S1 => blE x S1 P := wq_mTest
@[simp] theorem e_mTru {m : M PV} {P : Kt Bool} : wq (mTru m) (a :: S) P ↔ wq m (a :: S) fun x S1 => exS (truP x) S1 P := wq_mTru
@[simp] theorem e_mNot {m : M Bool} {P : Kt Bool} : wq (mNot m) (a :: S) P ↔ wq m (a :: S) fun x S1 => P (!x) S1 := wq_mNot
@[simp] theorem e_mB {m : M Bool} {P : Kt PV} : wq (mB m) (a :: S) P ↔ wq m (a :: S) fun x S1 => P (.bl x) S1 := wq_mB
@[simp] theorem e_mAnd {m n : M Bool} {P : Kt Bool} : wq (mAnd m n) (a :: S) P ↔ wq m (a :: S) fun x S1 => brS x n (ret false) S1 P := by
  rw [wq_mAnd]
  unfold brS
  simp only [wq_ret]
@[simp] theorem e_mOr {m n : M Bool} {P : Kt Bool} : wq (mOr m n) (a :: S) P ↔ wq m (a :: S) fun x S1 => brS x (ret true) n S1 P := by
  rw [wq_mOr]
  unfold brS
  simp only [wq_ret]
@[simp] theorem e_mArgs_nil {P : Kt (List PV)} : wq (mArgs []) (a :: S) P ↔ P [] (a :: S) := wq_ret
@[simp] theorem e_mArgs_cons {m : M PV} {ms : List (M PV)} {P : Kt (List PV)} : wq (mArgs (m :: ms)) (a :: S) P ↔ wq m (a :: S) fun x S1 => wq (mArgs ms) S1 fun xs S2 => P (x :: xs) S2 := wq_mArgs_cons
@[simp] theorem e_mTup {ms : List (M PV)} {P : Kt PV} : wq (mTup ms) (a :: S) P ↔ wq (mArgs ms) (a :: S) fun xs S1 => P (.tup xs) S1 := wq_mTup
@[simp] theorem e_mLst {ms : List (M PV)} {P : Kt PV} : wq (mLst ms) (a :: S) P ↔ wq (mArgs ms) (a :: S) fun xs S1 => P (.lst xs) S1 := wq_mLst
@[simp] theorem e_mCB {g : List PV → Option PV} {ms : List (M PV)} {P : Kt PV} : wq (mCB g ms) (a :: S) P ↔ wq (mArgs ms) (a :: S) fun xs S1 => exS (g xs) S1 P := wq_mCB
@[simp] theorem e_mUn {g : PV → Option PV} {m : M PV} {P : Kt PV} : wq (mUn g m) (a :: S) P ↔ wq m (a :: S) fun x S1 => exS (g x) S1 P := wq_mUn
@[simp] theorem e_mLenO {c : Nat} {f : List PV → Option RO} {m : M PV} {P : Kt PV} : wq (mLenO c f m) (a :: S) P ↔ wq m (a :: S) fun x S1 => exS (pLenO c f x) S1 P := wq_mLenO
@[simp] theorem e_mIsa {ans : PV → Option Bool} {m : M PV} {P : Kt PV} : wq (mIsa ans m) (a :: S) P ↔ wq m (a :: S) fun x S1 => exS (ans x) S1 fun b S2 => P (.bl b) S2 := wq_mIsa
@[simp] theorem e_mIsN {n : Bool} {m : M PV} {P : Kt PV} : wq (mIsN n m) (a :: S) P ↔ wq m (a :: S) fun x S1 => P (isN n x) S1 := wq_mIsN
@[simp] theorem e_roM {o : Option RO} {P : Kt PV} : wq (roM o) (a :: S) P ↔ exR o (a :: S) P := wq_roM
@[simp] theorem e_mCall {f : List PV → Option RO} {ms : List (M PV)} {P : Kt PV} : wq (mCall f ms) (a :: S) P ↔ wq (mArgs ms) (a :: S) fun xs S1 => exR (f xs) S1 P := wq_mCall
@[simp] theorem e_roQ {o : Option RO} {P : Kt PV} : wq (roQ o) (a :: S) P ↔ exR o (a :: S) P := wq_roQ
@[simp] theorem e_mCMeth {c : Nat} {f : List PV → Option RO} {ms : List (M PV)} {P : Kt PV} : wq (mCMeth c f ms) (a :: S) P ↔ wq (mArgs ms) (a :: S) fun xs S1 => exR (f (.glb c :: xs)) S1 P := wq_mCMeth
@[simp] theorem e_mVar {i : Nat} {P : PV → Sto → Prop} : wq (mVar i) (a :: S) P ↔ rdV (a :: S)[i]? i (a :: S) P := by
  rw [wq_mVar]
  constructor
  · rintro (⟨x, h, p⟩ | ⟨x, h, p⟩) <;> rw [h] <;> exact p
  · intro h
    cases e : (a :: S)[i]? with
    | none => rw [e] at h; exact h.elim
    | some o =>
      rw [e] at h
      cases o with
      | none => exact h.elim
      | some v =>
        cases v with
        | p x => exact .inl ⟨x, rfl, h⟩
        | o x => exact .inr ⟨x, rfl, h⟩
        | i x => exact h.elim
@[simp] theorem e_put {i : Nat} {x : PV} {P : Kt Unit} : wq (put i x) (a :: S) P ↔ gdS (okPut (a :: S)[i]?) (a :: S) fun S1 => P () (S1.set i (some (.p x))) := by
  rw [wq_put, ← okPut_iff]
  rfl
@[simp] theorem e_putO {i : Nat} {x : PV} {P : Kt Unit} : wq (putO i x) (a :: S) P ↔ gdS (okPut (a :: S)[i]?) (a :: S) fun S1 => P () (S1.set i (some (.o x))) := by
  rw [wq_putO, ← okPut_iff]
  rfl
@[simp] theorem e_mSet {i : Nat} {m : M PV} {P : Kt Fl} : wq (mSet i m) (a :: S) P ↔ wq m (a :: S) fun x S1 => wq (put i x) S1 fun _ S2 => P .nx S2 := wq_mSet
@[simp] theorem e_mSetO {i : Nat} {m : M PV} {P : Kt Fl} : wq (mSetO i m) (a :: S) P ↔ wq m (a :: S) fun x S1 => wq (putO i x) S1 fun _ S2 => P .nx S2 := wq_mSetO
@[simp] theorem e_mDct {P : Kt PV} : wq (mDct) (a :: S) P ↔ P (.dct []) (a :: S) := wq_ret
theorem g_guardPk {i : Nat} {m : M α} {P : Kt α} : wq (guardPk i m) S P ↔ exS (pk i S) S fun _ S1 => wq m S1 P := by
  rw [wq_guardPk]
  exact ⟨fun ⟨⟨x, h⟩, q⟩ => ⟨x, h, q⟩, fun ⟨x, h, q⟩ => ⟨⟨x, h⟩, q⟩⟩
theorem g_opk {i : Nat} {f : PV → Option PV} {P : Kt PV} : wq (opk i f) S P ↔ exS (pk i S) S fun x S1 => exS (f x) S1 fun z S2 => gdS z.atom S2 fun S3 => P z S3 := by
  rw [wq_opk]
  exact ⟨fun ⟨x, z, a, b, c, d⟩ => ⟨x, a, z, b, c, d⟩, fun ⟨x, a, z, b, c, d⟩ => ⟨x, z, a, b, c, d⟩⟩
@[simp] theorem e_guardPk {i : Nat} {m : M α} {P : Kt α} : wq (guardPk i m) (a :: S) P ↔ exS (pk i (a :: S)) (a :: S) fun _ S1 => wq m S1 P := g_guardPk
@[simp] theorem e_opk {i : Nat} {f : PV → Option PV} {P : Kt PV} : wq (opk i f) (a :: S) P ↔ exS (pk i (a :: S)) (a :: S) fun x S1 => exS (f x) S1 fun z S2 => gdS z.atom S2 fun S3 => P z S3 := g_opk
@[simp] theorem e_mCBV {g : List PV → Option PV} {i : Nat} {P : Kt PV} : wq (mCBV g i) (a :: S) P ↔ exS (pk i (a :: S)) (a :: S) fun x S1 => exS (g [x]) S1 fun z S2 => gdS z.atom S2 fun S3 => P z S3 := g_opk
@[simp] theorem e_mBinL {g : PV → PV → Option PV} {i : Nat} {mb : M PV} {P : Kt PV} : wq (mBinL g i mb) (a :: S) P ↔ wq (guardPk i (bnd mb fun y => opk i fun x => g x y)) (a :: S) P := Iff.rfl
@[simp] theorem e_mBinR {g : PV → PV → Option PV} {i : Nat} {ma : M PV} {P : Kt PV} : wq (mBinR g ma i) (a :: S) P ↔ wq ma (a :: S) fun x S1 => wq (opk i fun y => g x y) S1 P := wq_bnd
@[simp] theorem e_mIxV {i : Nat} {mk : M PV} {P : Kt PV} : wq (mIxV i mk) (a :: S) P ↔ exS (pk i (a :: S)) (a :: S) fun _ S0 => wq mk S0 fun y S1 => exS (pk i S1) S1 fun x S2 => exS (pIx x y) S2 P := by
  rw [wq_mIxV]
  constructor
  · rintro ⟨⟨x, h⟩, y, S1, e, x1, z, a, b, c⟩
    exact ⟨x, h, y, S1, e, x1, a, z, b, c⟩
  · rintro ⟨x, h, y, S1, e, x1, a, z, b, c⟩
    exact ⟨⟨x, h⟩, y, S1, e, x1, z, a, b, c⟩
@[simp] theorem e_mFldV {i c : Nat} {f : Str} {P : Kt PV} : wq (mFldV i c f) (a :: S) P ↔ exS (pk i (a :: S)) (a :: S) fun x S1 => exS (pFld c f x) S1 P := by
  rw [wq_mFldV]
  exact ⟨fun ⟨x, z, a, b, c⟩ => ⟨x, a, z, b, c⟩, fun ⟨x, a, z, b, c⟩ => ⟨x, z, a, b, c⟩⟩
@[simp] theorem e_mTruV {i : Nat} {P : Kt Bool} : wq (mTruV i) (a :: S) P ↔ exS (pk i (a :: S)) (a :: S) fun x S1 => exS (truP x) S1 P := by
  rw [wq_mTruV]
  exact ⟨fun ⟨x, z, a, b, c⟩ => ⟨x, a, z, b, c⟩, fun ⟨x, a, z, b, c⟩ => ⟨x, z, a, b, c⟩⟩
theorem g_updO {i : Nat} {f : PV → Option PV} {P : Kt Unit} : wq (updO i f) S P ↔ upO S[i]? f id i S (fun _ => P ()) := by
  rw [wq_updO]
  constructor
  · rintro (⟨x, y, h, e, p⟩ | ⟨x, y, h, e, p⟩) <;> rw [h] <;> exact ⟨y, e, p⟩
  · intro h
    cases e : S[i]? with
    | none => rw [e] at h; exact h.elim
    | some o =>
      rw [e] at h
      cases o with
      | none => exact h.elim
      | some v =>
        cases v with
        | p x => exact h.elim
        | o x => obtain ⟨y, a, b⟩ := h; exact .inl ⟨x, y, rfl, a, b⟩
        | i x => obtain ⟨y, a, b⟩ := h; exact .inr ⟨x, y, rfl, a, b⟩
theorem g_updR {i : Nat} {f : PV → Option (PV × PV)} {P : Kt PV} : wq (updR i f) S P ↔ upO S[i]? f Prod.fst i S (fun y => P y.2) := by
  rw [wq_updR]
  constructor
  · rintro (⟨x, y, z, h, e, p⟩ | ⟨x, y, z, h, e, p⟩) <;> rw [h] <;> exact ⟨(y, z), e, p⟩
  · intro h
    cases e : S[i]? with
    | none => rw [e] at h; exact h.elim
    | some o =>
      rw [e] at h
      cases o with
      | none => exact h.elim
      | some v =>
        cases v with
        | p x => exact h.elim
        | o x => obtain ⟨⟨y, z⟩, a, b⟩ := h; exact .inl ⟨x, y, z, rfl, a, b⟩
        | i x => obtain ⟨⟨y, z⟩, a, b⟩ := h; exact .inr ⟨x, y, z, rfl, a, b⟩
theorem g_mIn {i : Nat} {f : PV → Option (PV × RO)} {P : Kt PV} : wq (mIn i f) S P ↔ inn S[i]? f i S P := by
  rw [wq_mIn]
  constructor
  · rintro (⟨x, y, z, h, e, p⟩ | ⟨x, y, z, h, e, p⟩) <;> rw [h] <;> exact ⟨y, z, e, p⟩
  · intro h
    cases e : S[i]? with
    | none => rw [e] at h; exact h.elim
    | some o =>
      rw [e] at h
      cases o with
      | none => exact h.elim
      | some v =>
        cases v with
        | p x => exact h.elim
        | o x => obtain ⟨y, z, a, b⟩ := h; exact .inl ⟨x, y, z, rfl, a, b⟩
        | i x => obtain ⟨y, z, a, b⟩ := h; exact .inr ⟨x, y, z, rfl, a, b⟩
@[simp] theorem e_updO {i : Nat} {f : PV → Option PV} {P : Kt Unit} : wq (updO i f) (a :: S) P ↔ upO (a :: S)[i]? f id i (a :: S) (fun _ => P ()) := g_updO
@[simp] theorem e_updR {i : Nat} {f : PV → Option (PV × PV)} {P : Kt PV} : wq (updR i f) (a :: S) P ↔ upO (a :: S)[i]? f Prod.fst i (a :: S) (fun y => P y.2) := g_updR
@[simp] theorem e_mIn {i : Nat} {f : PV → Option (PV × RO)} {P : Kt PV} : wq (mIn i f) (a :: S) P ↔ inn (a :: S)[i]? f i (a :: S) P := g_mIn
@[simp] theorem e_mPut {i : Nat} {mk me : M PV} {P : Kt Fl} : wq (mPut i mk me) (a :: S) P ↔ wq me (a :: S) fun v S1 => exS (pk i S1) S1 fun _ S2 => wq mk S2 fun k S3 => wq (updO i fun x => pPut x k v) S3 fun _ S4 => P .nx S4 := by
  rw [wq_mPut]
  constructor
  · rintro ⟨v, S1, e, ⟨x, h⟩, q⟩
    exact ⟨v, S1, e, x, h, q⟩
  · rintro ⟨v, S1, e, x, h, q⟩
    exact ⟨v, S1, e, ⟨x, h⟩, q⟩
@[simp] theorem e_mSetF {i c : Nat} {f : Str} {me : M PV} {P : Kt Fl} : wq (mSetF i c f me) (a :: S) P ↔ wq me (a :: S) fun v S1 => wq (updO i (pSetF c f v)) S1 fun _ S2 => P .nx S2 := wq_mSetF
@[simp] theorem e_mMt {T : String} {i : Nat} {f : PV → List PV → Option (PV × PV)} {ms : List (M PV)} {P : Kt PV} : wq (mMt T i f ms) (a :: S) P ↔ gdS (isOT T i (a :: S)) (a :: S) fun S0 => wq (mArgs ms) S0 fun xs S1 => wq (updR i fun x => f x xs) S1 P := wq_mMt
@[simp] theorem e_mApp {i : Nat} {m : M PV} {P : Kt Fl} : wq (mApp i m) (a :: S) P ↔ gdS (isOT "list" i (a :: S)) (a :: S) fun S0 => wq m S0 fun x S1 => wq (updR i fun l => fApp l [x]) S1 fun _ S2 => P .nx S2 := wq_mApp
@[simp] theorem e_mCallI {i : Nat} {f : PV → List PV → Option (PV × RO)} {ms : List (M PV)} {P : Kt PV} : wq (mCallI i f ms) (a :: S) P ↔ gdS (isO i (a :: S)) (a :: S) fun S0 => wq (mArgs ms) S0 fun xs S1 => wq (mIn i fun x => f x xs) S1 P := wq_mCallI
theorem g_mkM {h : PV → Option (PV × RO)} {c : Nat} {P : Kt PV} : wq (mkM h c) S P ↔ exS (mkE (h (.obj c []))) S P := by
  rw [wq_mkM]
  constructor
  · rintro ⟨x, e, q⟩
    exact ⟨x, by rw [e]; rfl, q⟩
  · rintro ⟨x, e, q⟩
    unfold mkE at e
    split at e
    · rename_i u hu
      cases e
      exact ⟨x, hu, q⟩
    · cases e
@[simp] theorem e_mMake {c : Nat} {f : PV → List PV → Option (PV × RO)} {ms : List (M PV)} {P : Kt PV} : wq (mMake c f ms) (a :: S) P ↔ wq (mArgs ms) (a :: S) fun xs S1 => exS (mkE (f (.obj c []) xs)) S1 P := by
  unfold mMake
  rw [wq_bnd]
  simp only [g_mkM]
@[simp] theorem e_mMake0 {c : Nat} {f : PV → List PV → Option (PV × RO)} {ds : List PV} {P : Kt PV} : wq (mMake0 c f ds) (a :: S) P ↔ exS (mkE (f (.obj c []) ds)) (a :: S) P := g_mkM
@[simp] theorem e_mMakeV {i c : Nat} {f : PV → List PV → Option (PV × RO)} {ms : List (M PV)} {P : Kt PV} : wq (mMakeV i c f ms) (a :: S) P ↔ (a :: S)[i]? = some (some (.p (.glb c))) ∧ wq (mMake c f ms) (a :: S) P := wq_mMakeV
@[simp] theorem e_mMeth {c : Nat} {m : Str} {f : List PV → Option RO} {mo : M PV} {ms : List (M PV)} {P : Kt PV} : wq (mMeth c m f mo ms) (a :: S) P ↔ wq mo (a :: S) fun x S1 => obE c x S1 fun fs S2 => gdS (fs.lookup m).isNone S2 fun S3 => wq (mArgs ms) S3 fun xs S4 => exR (f (.obj c fs :: xs)) S4 P := by
  rw [wq_mMeth]
  constructor
  · rintro ⟨x, S1, e, fs, rfl, h, q⟩
    exact ⟨_, S1, e, fs, rfl, by rw [h]; rfl, q⟩
  · rintro ⟨x, S1, e, fs, rfl, h, q⟩
    refine ⟨_, S1, e, fs, rfl, ?_, q⟩
    cases z : fs.lookup m with
    | none => rfl
    | some v => rw [z] at h; cases h
@[simp] theorem e_mCallO {c : Nat} {f : List PV → Option RO} {mo : M PV} {ms : List (M PV)} {P : Kt PV} : wq (mCallO c f mo ms) (a :: S) P ↔ wq mo (a :: S) fun x S1 => obE c x S1 fun fs S2 => wq (mArgs ms) S2 fun xs S3 => exR (f (.obj c fs :: xs)) S3 P := wq_mCallO
@[simp] theorem e_mNoB {P : Kt (Option Int)} : wq (mNoB) (a :: S) P ↔ P none (a :: S) := wq_ret
@[simp] theorem e_mBd {m : M PV} {P : Kt (Option Int)} : wq (mBd m) (a :: S) P ↔ wq m (a :: S) fun x S1 => inE x S1 fun i S2 => P (some i) S2 := wq_mBd
@[simp] theorem e_mSl {m : M PV} {lo hi : M (Option Int)} {P : Kt PV} : wq (mSl m lo hi) (a :: S) P ↔ wq m (a :: S) fun x S1 => wq lo S1 fun u S2 => wq hi S2 fun v S3 => exS (pSl x u v) S3 P := wq_mSl
@[simp] theorem e_mRng1 {m : M PV} {P : Kt (List PV)} : wq (mRng1 m) (a :: S) P ↔ wq m (a :: S) fun x S1 => inE x S1 fun j S2 => gdS (inR j) S2 fun S3 => P (rangeP 0 j.toNat) S3 := wq_mRng1
@[simp] theorem e_mRng2 {m n : M PV} {P : Kt (List PV)} : wq (mRng2 m n) (a :: S) P ↔ wq m (a :: S) fun x S1 => wq n S1 fun y S2 => inE x S2 fun i S3 => inE y S3 fun j S4 => gdS (inR i) S4 fun S5 => gdS (inR j) S5 fun S6 => P (rangeP i (j - i).toNat) S6 := by
  rw [wq_mRng2]
  constructor
  · rintro ⟨x, S1, e, y, S2, e2, i, j, a, b, c, d, q⟩
    exact ⟨x, S1, e, y, S2, e2, i, a, j, b, c, d, q⟩
  · rintro ⟨x, S1, e, y, S2, e2, i, a, j, b, c, d, q⟩
    exact ⟨x, S1, e, y, S2, e2, i, j, a, b, c, d, q⟩
@[simp] theorem itA_lst {xs : List PV} : itA (.lst xs) = some xs := rfl
@[simp] theorem itA_tup {xs : List PV} : itA (.tup xs) = some xs := rfl
@[simp] theorem itA_str {z : Str} : itA (.str z) = some (charsP z) := rfl
@[simp] theorem itA_frl {ns : List Int} : itA (.frl ns) = some (ns.map PV.int) := rfl
@[simp] theorem e_mIterA {m : M PV} {P : Kt (List PV)} : wq (mIterA m) (a :: S) P ↔ wq m (a :: S) fun x S1 => exS (itA x) S1 P := wq_mIterA
@[simp] theorem e_mFor {mi : M (List PV)} {g : PV → Sto → Option Sto} {m : M Fl} {P : Kt Fl} : wq (mFor mi g m) (a :: S) P ↔ wq mi (a :: S) fun ys S1 => wq (loop g m ys) S1 P := wq_mFor
@[simp] theorem e_mChain {g g' : PV → PV → Option PV} {ma mb mc : M PV} {P : Kt PV} : wq (mChain g g' ma mb mc) (a :: S) P ↔ wq ma (a :: S) fun x S1 => wq mb S1 fun y S2 => exS (g x y) S2 fun u S3 => blE u S3 fun b S4 => brS b (bnd mc fun u => lift (g' y u)) (ret (.bl false)) S4 P := by
  have h : ∀ (y : PV) (b : Bool) (S : Sto), ((b = true → wq mc S fun u S3 => ∃ z, g' y u = some z ∧ P z S3) ∧ (b = false → P (.bl false) S)) ↔ brS b (bnd mc fun u => lift (g' y u)) (ret (.bl false)) S P := by
    intro y b S
    unfold brS
    simp only [wq_bnd, wq_lift, wq_ret]
  rw [wq_mChain]
  constructor
  · rintro ⟨x, S1, e, y, S2, e2, b, h1, q⟩
    exact ⟨x, S1, e, y, S2, e2, _, h1, b, rfl, (h y b S2).mp q⟩
  · rintro ⟨x, S1, e, y, S2, e2, _, h1, b, rfl, q⟩
    exact ⟨x, S1, e, y, S2, e2, b, h1, (h y b S2).mpr q⟩
@[simp] theorem e_mGet2 {mo mk md : M PV} {P : Kt PV} : wq (mGet2 mo mk md) (a :: S) P ↔ wq mo (a :: S) fun x S1 => gdS (isDct x) S1 fun S2 => wq mk S2 fun k S3 => wq md S3 fun d S4 => exS (pGet x k d) S4 P := wq_mGet2
@[simp] theorem e_mBinS {g : PV → PV → Option PV} {mo me : M PV} {P : Kt PV} : wq (mBinS g mo me) (a :: S) P ↔ wq mo (a :: S) fun x S1 => gdS (isStr x) S1 fun S2 => wq me S2 fun y S3 => exS (g x y) S3 P := wq_mBinS
@[simp] theorem e_mAsg {m : M PV} {g : PV → Sto → Option Sto} {P : Kt Fl} : wq (mAsg m g) (a :: S) P ↔ wq m (a :: S) fun x S1 => ∃ S2, g x S1 = some S2 ∧ P .nx S2 := wq_mAsg
def lcE (o : Option (List PV × Sto)) (P : Kt (List PV)) : Prop := ∃ zs S2, o = some (zs, S2) ∧ P zs S2
@[simp] theorem lcE_some {zs : List PV} {S2 : Sto} {P : Kt (List PV)} : lcE (some (zs, S2)) P ↔ P zs S2 := ⟨fun ⟨_, _, e, p⟩ => by cases e; exact p, fun p => ⟨zs, S2, rfl, p⟩⟩
theorem lcE_of {o : Option (List PV × Sto)} {zs : List PV} {S2 : Sto} {P : Kt (List PV)} (h : o = some (zs, S2)) (k : P zs S2) : lcE o P := ⟨zs, S2, h, k⟩
theorem lcGo_mapf {β : Type} {vs : List Nat} {g : PV → Sto → Option Sto} {mt : M Bool} {me : M PV} (xs : List β) (φ : β → PV) (t : β → Bool) (f : β → PV)
    (h : ∀ b ∈ xs, ∃ S1, g (φ b) S = some S1 ∧ wq mt S1 fun c S2 => c = t b ∧ (c = true → wq me S2 fun z S3 => z = f b ∧ wipeS S3 vs = S) ∧ (c = false → wipeS S2 vs = S)) : lcGo vs g mt me (xs.map φ) S = some ((xs.filter t).map f, S) := by
  induction xs with
  | nil => rfl
  | cons y ys ih =>
    obtain ⟨S1, e1, b, S2, e2, eb, qt, qf⟩ := h y List.mem_cons_self
    have ih' := ih fun z hz => h z (List.mem_cons_of_mem _ hz)
    rw [List.map_cons]
    cases b with
    | true =>
      obtain ⟨z, S3, e3, ez, ew⟩ := qt rfl
      unfold lcGo
      rw [e1]
      dsimp only
      rw [e2]
      dsimp only
      rw [e3]
      dsimp only
      rw [ew, ih']
      dsimp only
      rw [List.filter_cons, ← eb, if_pos rfl, List.map_cons, ez]
    | false =>
      unfold lcGo
      rw [e1]
      dsimp only
      rw [e2]
      dsimp only
      rw [qf rfl, ih', List.filter_cons, ← eb, if_neg Bool.false_ne_true]
theorem lcE_inv {vs : List Nat} {g : PV → Sto → Option Sto} {mt : M Bool} {me : M PV} {ys : List PV} {S : Sto} {P : Kt (List PV)} (I : List PV → List PV → Sto → Prop)
    (h0 : I ys [] S)
    (h1 : ∀ y ys acc S, I (y :: ys) acc S → ∃ S1, g y S = some S1 ∧ wq mt S1 fun b S2 => (b = true → wq me S2 fun z S3 => I ys (acc ++ [z]) (wipeS S3 vs)) ∧ (b = false → I ys acc (wipeS S2 vs)))
    (h2 : ∀ acc S, I [] acc S → P acc S) : lcE (lcGo vs g mt me ys S) P := by
  obtain ⟨zs, S', e, q⟩ := lcGo_inv I h1 h0
  exact ⟨zs, S', e, h2 _ _ q⟩
@[simp] theorem e_mLc {vs : List Nat} {mi : M (List PV)} {g : PV → Sto → Option Sto} {mt : M Bool} {me : M PV} {P : Kt PV} : wq (mLc vs mi g mt me) (a :: S) P ↔ wq mi (a :: S) fun ys S1 => gdS (decide (ys.length ≤ sizeLine)) S1 fun S2 => gdS (plainAt S2 vs) S2 fun S3 => lcE (lcGo vs g mt me ys (wipeS S3 vs)) fun zs S4 => P (.lst zs) (backS S3 S4 vs) := by
  rw [wq_mLc]
  constructor
  · rintro ⟨ys, S1, e, a, b, q⟩
    exact ⟨ys, S1, e, decide_eq_true a, b, q⟩
  · rintro ⟨ys, S1, e, a, b, q⟩
    exact ⟨ys, S1, e, of_decide_eq_true a, b, q⟩
@[simp] theorem e_mYes {P : Kt Bool} : wq mYes (a :: S) P ↔ P true (a :: S) := wq_ret
@[simp] theorem e_aft_nx {u : M Fl} {P : Kt Fl} : aft u P .nx S ↔ wq u S P := Iff.rfl
@[simp] theorem e_aft_rt {u : M Fl} {P : Kt Fl} {y : PV} : aft u P (.rt y) S ↔ P (.rt y) S := Iff.rfl
@[simp] theorem e_aft_bk {u : M Fl} {P : Kt Fl} : aft u P .bk S ↔ P .bk S := Iff.rfl
@[simp] theorem e_aft_ct {u : M Fl} {P : Kt Fl} : aft u P .ct S ↔ P .ct S := Iff.rfl
@[simp] theorem e_trn_nx {k : Sto → Prop} {P : Kt Fl} : trn k P .nx S ↔ k S := Iff.rfl
@[simp] theorem e_trn_ct {k : Sto → Prop} {P : Kt Fl} : trn k P .ct S ↔ k S := Iff.rfl
@[simp] theorem e_trn_bk {k : Sto → Prop} {P : Kt Fl} : trn k P .bk S ↔ P .nx S := Iff.rfl
@[simp] theorem e_trn_rt {k : Sto → Prop} {P : Kt Fl} {y : PV} : trn k P (.rt y) S ↔ P (.rt y) S := Iff.rfl
@[simp] theorem e_rtP_rt {P : PV → Prop} {y : PV} : rtP P (.rt y) S ↔ P y := Iff.rfl
@[simp] theorem e_rtP_nx {P : PV → Prop} : rtP P .nx S ↔ P .non := Iff.rfl
@[simp] theorem e_rtI_rt {P : PV → PV → Prop} {x y : PV} : rtI P (.rt y) (some (.i x) :: S) ↔ P x y := Iff.rfl
@[simp] theorem e_rtI_nx {P : PV → PV → Prop} {x : PV} : rtI P .nx (some (.i x) :: S) ↔ P x .non := Iff.rfl
@[simp] theorem gN_c {i : Nat} {x : PV} : gN i x (a :: S) = if okPut (a :: S)[i]? = true then some ((a :: S).set i (some (.p x))) else none := by
  unfold gN put
  cases e : (a :: S)[i]? with
  | none => simp [okPut]
  | some o =>
    cases o with
    | none => simp [okPut]
    | some v => cases v <;> simp [okPut]
@[simp] theorem wipeS_c1 {v : Nat} : wipeS (a :: S) [v] = (a :: S).set v none := rfl
@[simp] theorem backS_c1 {b : Option SV} {S2 : Sto} {v : Nat} : backS (a :: S) (b :: S2) [v] = (b :: S2).set v ((a :: S)[v]?.join) := rfl
@[simp] theorem plainAt_c1 {v : Nat} : plainAt (a :: S) [v] = (match (a :: S)[v]? with
  | some (some (.o _)) => false
  | some (some (.i _)) => false
  | none => false
  | _ => true) := by
  unfold plainAt
  simp only [List.all_cons, List.all_nil, Bool.and_true]
  all_goals rfl
end
end Kp
set_option Elab.async false
set_option linter.all false
set_option maxRecDepth 100000
set_option maxHeartbeats 4000000
namespace Kp
open PySem L2
/-! ### the operations at plain values -/
def tx (w : Str) : List Nat := w.cps.toList
theorem szL : sizeLine = 16777216 := by decide
theorem atN {α : Type} {xs : List α} {k : Nat} : atI xs (k : Int) = xs[k]? := by
  unfold atI ixN
  rw [if_pos (Int.natCast_nonneg k)]
  by_cases h : (k : Int) < (xs.length : Int)
  · rw [if_pos h]
    rfl
  · rw [if_neg h]
    have : xs.length ≤ k := by omega
    rw [List.getElem?_eq_none this]
    rfl
theorem atI_int {α : Type} {xs : List α} {k : Int} (h : 0 ≤ k) : atI xs k = xs[k.toNat]? := by
  obtain ⟨n, rfl⟩ := Int.eq_ofNat_of_zero_le h
  rw [atN]
  rfl
@[simp] theorem atI_0 {α : Type} {xs : List α} : atI xs 0 = xs[0]? := atN (k := 0)
@[simp] theorem atI_1 {α : Type} {xs : List α} : atI xs 1 = xs[1]? := atN (k := 1)
@[simp] theorem atI_2 {α : Type} {xs : List α} : atI xs 2 = xs[2]? := atN (k := 2)
@[simp] theorem atI_3 {α : Type} {xs : List α} : atI xs 3 = xs[3]? := atN (k := 3)
@[simp] theorem atI_4 {α : Type} {xs : List α} : atI xs 4 = xs[4]? := atN (k := 4)
@[simp] theorem atI_5 {α : Type} {xs : List α} : atI xs 5 = xs[5]? := atN (k := 5)
@[simp] theorem atI_6 {α : Type} {xs : List α} : atI xs 6 = xs[6]? := atN (k := 6)
@[simp] theorem atI_7 {α : Type} {xs : List α} : atI xs 7 = xs[7]? := atN (k := 7)
@[simp] theorem atI_8 {α : Type} {xs : List α} : atI xs 8 = xs[8]? := atN (k := 8)
@[simp] theorem atI_9 {α : Type} {xs : List α} : atI xs 9 = xs[9]? := atN (k := 9)
@[simp] theorem pIx_lst {xs : List PV} {k : Int} : pIx (.lst xs) (.int k) = atI xs k := rfl
@[simp] theorem pIx_tup {xs : List PV} {k : Int} : pIx (.tup xs) (.int k) = atI xs k := rfl
@[simp] theorem pIx_frl {xs : List Int} {k : Int} : pIx (.frl xs) (.int k) = (atI xs k).map PV.int := rfl
@[simp] theorem pIx_str {z : Str} {k : Int} : pIx (.str z) (.int k) = (atI (tx z) k).map fun c => .str ⟨#[c]⟩ := rfl
@[simp] theorem pIx_ds {kvs : List (PV × PV)} {s : Str} : pIx (.dct kvs) (.str s) = dGet kvs (.str s) := rfl
@[simp] theorem pLt_ii {i j : Int} : pLt (.int i) (.int j) = some (.bl (decide (i < j))) := rfl
@[simp] theorem pLt_ss {a b : Str} : pLt (.str a) (.str b) = some (.bl (decide (tx a < tx b))) := rfl
@[simp] theorem pGtI_ii {i j : Int} : pGtI (.int i) (.int j) = some (.bl (decide (j < i))) := rfl
@[simp] theorem pLeI_ii {i j : Int} : pLeI (.int i) (.int j) = some (.bl (decide (i ≤ j))) := rfl
@[simp] theorem pLeI_ss {a b : Str} : pLeI (.str a) (.str b) = some (.bl (!decide (tx b < tx a))) := rfl
@[simp] theorem pGeI_ii {i j : Int} : pGeI (.int i) (.int j) = some (.bl (decide (j ≤ i))) := rfl
theorem pEqB_ii {i j : Int} : pEqB (.int i) (.int j) = some (decide (i = j)) := by
  by_cases h : i = j <;> simp [pEqB, PV.isD, PV.dat, PyData.depth, PyData.eqv, h]
theorem pEqB_ss {i j : Str} : pEqB (.str i) (.str j) = some (decide (i = j)) := by
  by_cases h : i = j <;> simp [pEqB, PV.isD, PV.dat, PyData.depth, PyData.eqv, h]
@[simp] theorem pEq_ii {i j : Int} : pEq (.int i) (.int j) = some (.bl (decide (i = j))) := by
  unfold pEq
  rw [pEqB_ii]
  rfl
@[simp] theorem pNe_ii {i j : Int} : pNe (.int i) (.int j) = some (.bl (!decide (i = j))) := by
  unfold pNe
  rw [pEqB_ii]
  rfl
@[simp] theorem pEq_ss {i j : Str} : pEq (.str i) (.str j) = some (.bl (decide (i = j))) := by
  unfold pEq
  rw [pEqB_ss]
  rfl
@[simp] theorem pNe_ss {i j : Str} : pNe (.str i) (.str j) = some (.bl (!decide (i = j))) := by
  unfold pNe
  rw [pEqB_ss]
  rfl
@[simp] theorem pNe_bb {i j : Bool} : pNe (.bl i) (.bl j) = some (.bl (i != j)) := by
  cases i <;> cases j <;> rfl
@[simp] theorem pEq_bb {i j : Bool} : pEq (.bl i) (.bl j) = some (.bl (i == j)) := by
  cases i <;> cases j <;> rfl
@[simp] theorem pAdd_ii {i j : Int} : pAdd (.int i) (.int j) = some (.int (i + j)) := rfl
@[simp] theorem pAdd_ss {a b : Str} : pAdd (.str a) (.str b) = if a.length + b.length ≤ sizeLine then some (.str (a ++ b)) else none := rfl
@[simp] theorem pAdd_tt {a b : List PV} : pAdd (.tup a) (.tup b) = if a.length + b.length ≤ sizeLine then some (.tup (a ++ b)) else none := rfl
@[simp] theorem pAdd_ll {a b : List PV} : pAdd (.lst a) (.lst b) = if a.length + b.length ≤ sizeLine then some (.lst (a ++ b)) else none := rfl
@[simp] theorem pSub_ii {i j : Int} : pSub (.int i) (.int j) = some (.int (i - j)) := rfl
theorem pMul_ii {i j : Int} : pMul (.int i) (.int j) = if (decide (-(2 ^ 64) < i) && decide (i < 2 ^ 64)) || (decide (-(2 ^ 64) < j) && decide (j < 2 ^ 64)) then some (.int (i * j)) else none := rfl
theorem pMul_l {i j : Int} (h1 : -18446744073709551616 < i) (h2 : i < 18446744073709551616) : pMul (.int i) (.int j) = some (.int (i * j)) := by
  rw [pMul_ii, if_pos]
  have a : -(2 ^ 64 : Int) < i := by omega
  have b : i < (2 ^ 64 : Int) := by omega
  simp only [decide_eq_true a, decide_eq_true b, Bool.and_self, Bool.true_or]
theorem pMul_r {i j : Int} (h1 : -18446744073709551616 < j) (h2 : j < 18446744073709551616) : pMul (.int i) (.int j) = some (.int (i * j)) := by
  rw [pMul_ii, if_pos]
  have a : -(2 ^ 64 : Int) < j := by omega
  have b : j < (2 ^ 64 : Int) := by omega
  simp only [decide_eq_true a, decide_eq_true b, Bool.and_self, Bool.or_true]
theorem pMod_ii {i j : Int} (h : 0 < j) : pMod (.int i) (.int j) = some (.int (i % j)) := if_pos h
theorem pDiv_ii {i j : Int} (h : 0 < j) (h2 : j < 1073741824) : pDiv (.int i) (.int j) = some (.int (i / j)) := if_pos ⟨h, h2⟩
@[simp] theorem pAbs_i {i : Int} : pAbs [.int i] = some (.int (if i < 0 then -i else i)) := rfl
@[simp] theorem pInt_i {i : Int} : pInt [.int i] = some (.int i) := rfl
@[simp] theorem pInt_b {b : Bool} : pInt [.bl b] = some (.int (if b then 1 else 0)) := rfl
@[simp] theorem pLen_t {xs : List PV} : pLen [.tup xs] = some (.int xs.length) := rfl
@[simp] theorem pLen_l {xs : List PV} : pLen [.lst xs] = some (.int xs.length) := rfl
@[simp] theorem pLen_f {xs : List Int} : pLen [.frl xs] = some (.int xs.length) := rfl
@[simp] theorem pLen_s {z : Str} : pLen [.str z] = some (.int z.length) := rfl
@[simp] theorem atom_int {i : Int} : (PV.int i).atom = true := rfl
@[simp] theorem atom_str {i : Str} : (PV.str i).atom = true := rfl
@[simp] theorem atom_bl {i : Bool} : (PV.bl i).atom = true := rfl
@[simp] theorem atom_non : PV.non.atom = true := rfl
@[simp] theorem truP_bl {b : Bool} : truP (.bl b) = some b := rfl
@[simp] theorem truP_int {i : Int} : truP (.int i) = some (i != 0) := rfl
@[simp] theorem truP_non : truP .non = some false := rfl
@[simp] theorem truP_tup {xs : List PV} : truP (.tup xs) = some (!xs.isEmpty) := rfl
@[simp] theorem truP_lst {xs : List PV} : truP (.lst xs) = some (!xs.isEmpty) := rfl
@[simp] theorem isN_non {n : Bool} : isN n .non = .bl (!n) := rfl
@[simp] theorem isN_tup {n : Bool} {xs : List PV} : isN n (.tup xs) = .bl n := rfl
@[simp] theorem isN_lst {n : Bool} {xs : List PV} : isN n (.lst xs) = .bl n := rfl
@[simp] theorem isN_str {n : Bool} {xs : Str} : isN n (.str xs) = .bl n := rfl
@[simp] theorem isN_int {n : Bool} {xs : Int} : isN n (.int xs) = .bl n := rfl
@[simp] theorem isN_bl {n : Bool} {xs : Bool} : isN n (.bl xs) = .bl n := rfl
@[simp] theorem pTuple_l {xs : List PV} : pTuple [.lst xs] = some (.tup xs) := rfl
@[simp] theorem pTuple_t {xs : List PV} : pTuple [.tup xs] = some (.tup xs) := rfl
@[simp] theorem pList_l {xs : List PV} : pList [.lst xs] = some (.lst xs) := rfl
@[simp] theorem pList_t {xs : List PV} : pList [.tup xs] = some (.lst xs) := rfl
theorem intsP_map : ∀ ns : List Int, intsP (ns.map PV.int) = some ns
  | [] => rfl
  | n :: ns => by
    show (intsP (ns.map PV.int)).map (n :: ·) = _
    rw [intsP_map ns]
    rfl
@[simp] theorem pSum_i {ns : List Int} : pSum [.lst (ns.map PV.int)] = some (.int ns.sum) := by
  show (intsP (ns.map PV.int)).map (fun ns => PV.int ns.sum) = _
  rw [intsP_map]
  rfl
theorem cutL_le {α : Type} (xs : List α) (lo hi : Option Int) : (cutL xs lo hi).length ≤ xs.length := by
  unfold cutL
  rw [List.length_take, List.length_drop]
  omega
theorem pSl_frl {ns : List Int} {lo hi : Option Int} (h : ns.length ≤ 16777216) : pSl (.frl ns) lo hi = some (.lst ((cutL ns lo hi).map PV.int)) := if_pos (by rw [szL]; exact Nat.le_trans (cutL_le _ _ _) h)
@[simp] theorem pSl_tup {xs : List PV} {lo hi : Option Int} : pSl (.tup xs) lo hi = some (.tup (cutL xs lo hi)) := rfl
@[simp] theorem pSl_lst {xs : List PV} {lo hi : Option Int} : pSl (.lst xs) lo hi = some (.lst (cutL xs lo hi)) := rfl
@[simp] theorem pSl_str {z : Str} {lo hi : Option Int} : pSl (.str z) lo hi = some (.str (cutS z lo hi)) := rfl
theorem cutL_to {α : Type} (xs : List α) (k : Nat) : cutL xs none (some (k : Int)) = xs.take k := by
  unfold cutL
  rw [HT.sIx_nat]
  show (xs.drop 0).take (min k xs.length - 0) = _
  rw [List.drop_zero, Nat.sub_zero]
  rcases Nat.le_total k xs.length with h | h
  · rw [Nat.min_eq_left h]
  · rw [Nat.min_eq_right h, List.take_of_length_le h, List.take_length]
theorem cutL_from {α : Type} (xs : List α) (k : Nat) : cutL xs (some (k : Int)) none = xs.drop k := by
  unfold cutL
  rw [HT.sIx_nat]
  show (xs.drop (min k xs.length)).take (xs.length - min k xs.length) = _
  rcases Nat.le_total k xs.length with h | h
  · rw [Nat.min_eq_left h, List.take_of_length_le (by rw [List.length_drop]; exact Nat.le_refl _)]
  · rw [Nat.min_eq_right h, List.drop_of_length_le h, List.drop_of_length_le (Nat.le_refl _)]
    exact List.take_nil
theorem cutS_to (z : Str) (k : Nat) : tx (cutS z none (some (k : Int))) = (tx z).take k := by
  unfold tx cutS
  rw [HT.sIx_nat]
  have hl : z.length = z.cps.toList.length := rfl
  show (z.cps.toList.drop 0).take (min k z.length - 0) = _
  rw [List.drop_zero, Nat.sub_zero, hl]
  rcases Nat.le_total k z.cps.toList.length with h | h
  · rw [Nat.min_eq_left h]
  · rw [Nat.min_eq_right h, List.take_of_length_le h, List.take_length]
@[simp] theorem pPut_l {xs : List PV} {j : Int} {v : PV} : pPut (.lst xs) (.int j) v = (ixN xs.length j).map fun n => .lst (xs.set n v) := by
  show (match ixN xs.length j with | some n => some (PV.lst (xs.set n v)) | none => none) = _
  cases ixN xs.length j <;> rfl
theorem ixN_nat {n k : Nat} (h : k < n) : ixN n (k : Int) = some k := by
  unfold ixN
  rw [if_pos (Int.natCast_nonneg k), if_pos (by omega)]
  rfl
@[simp] theorem kitB_tl : kitB "tuple" "list" = some false := by decide +kernel
@[simp] theorem kitB_ll : kitB "list" "list" = some true := by decide +kernel
@[simp] theorem kitB_sl : kitB "str" "list" = some false := by decide +kernel
@[simp] theorem kitB_il : kitB "int" "list" = some false := by decide +kernel
@[simp] theorem kitB_bl : kitB "bool" "list" = some false := by decide +kernel
@[simp] theorem kitB_nl : kitB "NoneType" "list" = some false := by decide +kernel
@[simp] theorem kitB_tt : kitB "tuple" "tuple" = some true := by decide +kernel
@[simp] theorem kitB_lt : kitB "list" "tuple" = some false := by decide +kernel
@[simp] theorem kitB_st : kitB "str" "tuple" = some false := by decide +kernel
@[simp] theorem kitB_it : kitB "int" "tuple" = some false := by decide +kernel
@[simp] theorem kitB_bt : kitB "bool" "tuple" = some false := by decide +kernel
@[simp] theorem kitB_nt : kitB "NoneType" "tuple" = some false := by decide +kernel
@[simp] theorem kitB_ts : kitB "tuple" "str" = some false := by decide +kernel
@[simp] theorem kitB_ls : kitB "list" "str" = some false := by decide +kernel
@[simp] theorem kitB_ss : kitB "str" "str" = some true := by decide +kernel
@[simp] theorem kitB_is : kitB "int" "str" = some false := by decide +kernel
@[simp] theorem kitB_bs : kitB "bool" "str" = some false := by decide +kernel
@[simp] theorem kitB_ns : kitB "NoneType" "str" = some false := by decide +kernel
@[simp] theorem kitB_ti : kitB "tuple" "int" = some false := by decide +kernel
@[simp] theorem kitB_li : kitB "list" "int" = some false := by decide +kernel
@[simp] theorem kitB_si : kitB "str" "int" = some false := by decide +kernel
@[simp] theorem kitB_ii : kitB "int" "int" = some true := by decide +kernel
@[simp] theorem kitB_bi : kitB "bool" "int" = some true := by decide +kernel
@[simp] theorem kitB_ni : kitB "NoneType" "int" = some false := by decide +kernel
@[simp] theorem kitB_tb : kitB "tuple" "bool" = some false := by decide +kernel
@[simp] theorem kitB_lb : kitB "list" "bool" = some false := by decide +kernel
@[simp] theorem kitB_sb : kitB "str" "bool" = some false := by decide +kernel
@[simp] theorem kitB_ib : kitB "int" "bool" = some false := by decide +kernel
@[simp] theorem kitB_bb : kitB "bool" "bool" = some true := by decide +kernel
@[simp] theorem kitB_nb : kitB "NoneType" "bool" = some false := by decide +kernel
section
variable {oc : Nat → Option Bool} {T : String}
@[simp] theorem ansT_non : ansT oc T .non = kitB "NoneType" T := rfl
@[simp] theorem ansT_bl {b : Bool} : ansT oc T (.bl b) = kitB "bool" T := rfl
@[simp] theorem ansT_int {b : Int} : ansT oc T (.int b) = kitB "int" T := rfl
@[simp] theorem ansT_str {b : Str} : ansT oc T (.str b) = kitB "str" T := rfl
@[simp] theorem ansT_tup {b : List PV} : ansT oc T (.tup b) = kitB "tuple" T := rfl
@[simp] theorem ansT_lst {b : List PV} : ansT oc T (.lst b) = kitB "list" T := rfl
@[simp] theorem ansAny_nil {x : PV} : ansAny [] x = some false := rfl
theorem ansAny_t {f : PV → Option Bool} {fs : List (PV → Option Bool)} {x : PV} (h : f x = some true) : ansAny (f :: fs) x = some true := by
  unfold ansAny
  rw [h]
theorem ansAny_f {f : PV → Option Bool} {fs : List (PV → Option Bool)} {x : PV} (h : f x = some false) : ansAny (f :: fs) x = ansAny fs x := by
  conv => lhs; unfold ansAny
  rw [h]
@[simp] theorem ansO_obj {c : Nat} {fs : List (Str × PV)} : ansO oc (.obj c fs) = oc c := rfl
@[simp] theorem ansO_tup {xs : List PV} : ansO oc (.tup xs) = some false := rfl
@[simp] theorem ansO_lst {xs : List PV} : ansO oc (.lst xs) = some false := rfl
@[simp] theorem ocOf_self {k : Nat} : ocOf k k = some true := by
  unfold ocOf
  rw [if_pos rfl]
end
@[simp] theorem pFld_obj {c : Nat} {f : Str} {fs : List (Str × PV)} : pFld c f (.obj c fs) = fs.lookup f := by
  unfold pFld
  dsimp only
  rw [if_pos rfl]
theorem rangeP_mem {lo : Int} {n : Nat} {y : PV} (h : y ∈ rangeP lo n) : ∃ i : Nat, i < n ∧ y = .int (lo + (i : Int)) := by
  unfold rangeP at h
  obtain ⟨i, hi, rfl⟩ := List.mem_map.mp h
  exact ⟨i, List.mem_range.mp hi, rfl⟩
theorem inR_of {j : Int} (h1 : -4611686018427387904 ≤ j) (h2 : j < 4611686018427387904) : inR j = true := by
  unfold inR
  have a : -(2 ^ 62 : Int) ≤ j := by omega
  have b : j < (2 ^ 62 : Int) := by omega
  rw [decide_eq_true a, decide_eq_true b]
  rfl
@[simp] theorem ixN_0 {n : Nat} : ixN (n + 1) 0 = some 0 := ixN_nat (k := 0) (by omega)
@[simp] theorem ixN_1 {n : Nat} : ixN (n + 2) 1 = some 1 := ixN_nat (k := 1) (by omega)
@[simp] theorem ixN_2 {n : Nat} : ixN (n + 3) 2 = some 2 := ixN_nat (k := 2) (by omega)
@[simp] theorem ixN_3 {n : Nat} : ixN (n + 4) 3 = some 3 := ixN_nat (k := 3) (by omega)
@[simp] theorem ixN_4 {n : Nat} : ixN (n + 5) 4 = some 4 := ixN_nat (k := 4) (by omega)
theorem brS_any {α : Type} {b : Bool} {m n : M α} {S : Sto} {P : Kt α} (Q : α → Prop) (h1 : b = true → wq m S fun x S1 => Q x ∧ S1 = S) (h2 : b = false → wq n S fun x S1 => Q x ∧ S1 = S) (k : ∀ x, Q x → P x S) : brS b m n S P :=
  ⟨fun e => wq_mono (h1 e) fun x S1 ⟨q, z⟩ => by rw [z]; exact k x q, fun e => wq_mono (h2 e) fun x S1 ⟨q, z⟩ => by rw [z]; exact k x q⟩
theorem pPow_10_18 : pPow (.int 10) (.int 18) = some (.int 1000000000000000000) := by
  unfold pPow
  dsimp only
  rw [if_pos (by decide)]
  rfl
theorem tx_len (w : Str) : (tx w).length = w.length := rfl
theorem tx_append (a b : Str) : tx (a ++ b) = tx a ++ tx b := by
  unfold tx
  rw [Str.cps_append, Array.toList_append]
theorem tx_inj {a b : Str} (h : tx a = tx b) : a = b := by
  have hc : a.cps = b.cps := Array.toList_inj.mp h
  cases a
  cases b
  simp only [Str.mk.injEq]
  exact hc
theorem len_append (a b : Str) : (a ++ b).length = a.length + b.length := by
  rw [← tx_len, tx_append, List.length_append]
  rfl
@[simp] theorem filter_tt {α : Type} {l : List α} : l.filter (fun _ => true) = l := List.filter_eq_self.mpr fun _ _ => rfl
@[simp] theorem exS_ite {α : Type} {c : Prop} [Decidable c] {z : α} {S : Sto} {P : Kt α} : exS (if c then some z else none) S P ↔ c ∧ P z S := by
  by_cases h : c
  · rw [if_pos h, exS_some]
    exact ⟨fun p => ⟨h, p⟩, fun p => p.2⟩
  · rw [if_neg h]
    exact ⟨fun p => exS_none.mp p |>.elim, fun p => (h p.1).elim⟩
@[simp] theorem upB_ite_o {α : Type} {c : Prop} [Decidable c] {y : α} {g : α → PV} {i : Nat} {S : Sto} {P : Kt α} : upB true (if c then some y else none) g i S P ↔ c ∧ P y (S.set i (some (.o (g y)))) := by
  by_cases h : c
  · rw [if_pos h, upB_o]
    exact ⟨fun p => ⟨h, p⟩, fun p => p.2⟩
  · rw [if_neg h]
    exact ⟨fun ⟨_, e, _⟩ => (by cases e), fun p => (h p.1).elim⟩
@[simp] theorem upB_ite_i {α : Type} {c : Prop} [Decidable c] {y : α} {g : α → PV} {i : Nat} {S : Sto} {P : Kt α} : upB false (if c then some y else none) g i S P ↔ c ∧ P y (S.set i (some (.i (g y)))) := by
  by_cases h : c
  · rw [if_pos h, upB_i]
    exact ⟨fun p => ⟨h, p⟩, fun p => p.2⟩
  · rw [if_neg h]
    exact ⟨fun ⟨_, e, _⟩ => (by cases e), fun p => (h p.1).elim⟩
@[simp] theorem fApp_l {ys : List PV} {y : PV} : fApp (.lst ys) [y] = if ys.length < sizeLine then some (.lst (ys ++ [y]), .non) else none := rfl
end Kp
set_option Elab.async false
set_option linter.all false
set_option maxRecDepth 100000
set_option maxHeartbeats 4000000
namespace Kp
open PySem L2
theorem joinL_flat : ∀ ps : List (List Nat), TL.joinL [] ps = ps.flatten
  | [] => rfl
  | [p] => by simp [TL.joinL]
  | p :: q :: r => by
    show p ++ ([] ++ TL.joinL [] (q :: r)) = _
    rw [joinL_flat (q :: r), List.nil_append]
    rfl
def chr1 (c : Nat) : Str := ⟨#[c]⟩
theorem strsP_map : ∀ ws : List Str, strsP (ws.map PV.str) = some ws
  | [] => rfl
  | w :: ws => by
    show (strsP (ws.map PV.str)).map (w :: ·) = _
    rw [strsP_map ws]
    rfl
theorem join_flat (ws : List Str) : tx (Txt.join "" ws) = (ws.map fun w => tx w).flatten := by
  have e : Txt.join "" ws = Str.join "" ws := TL.join_eq _ _
  have e2 := TL.tl_join "" ws
  rw [e]
  exact e2.trans (joinL_flat _)
theorem flat_chr : ∀ cs : List Nat, ((cs.map chr1).map fun w => tx w).flatten = cs
  | [] => rfl
  | c :: cs => by
    show [c] ++ ((cs.map chr1).map fun w => tx w).flatten = _
    rw [flat_chr cs]
    rfl
theorem len_chr (cs : List Nat) : ((cs.map chr1).map fun w => w.length).sum = cs.length := by
  induction cs with
  | nil => rfl
  | cons c cs ih =>
    rw [List.map_cons, List.map_cons, List.sum_cons, ih, List.length_cons]
    show 1 + cs.length = _
    omega
theorem pJoin_chars (cs : List Nat) (h : cs.length ≤ 100) : pJoin (.str "") (.lst (cs.map (PV.str ∘ chr1))) = some (.str ⟨cs.toArray⟩) := by
  rw [← List.map_map]
  have ej : Txt.join "" (cs.map chr1) = ⟨cs.toArray⟩ := tx_inj (by rw [join_flat, flat_chr]; rfl)
  have hl : (⟨cs.toArray⟩ : Str).length = cs.length := List.size_toArray
  unfold pJoin
  dsimp only
  have e : (itemsP (.lst ((cs.map chr1).map PV.str))).bind strsP = some (cs.map chr1) := strsP_map _
  rw [e]
  dsimp only
  rw [len_chr, ej, hl, List.length_map, szL]
  have z : Str.length (Str.ofString "") = 0 := by decide +kernel
  rw [z, if_pos (by omega)]
theorem isDL_strs : ∀ ws : List Str, PV.isDL (ws.map PV.str) = true
  | [] => rfl
  | w :: ws => by
    show (PV.isD (.str w) && PV.isDL (ws.map PV.str)) = true
    rw [isDL_strs ws]
    rfl
theorem datL_strs : ∀ ws : List Str, PV.datL (ws.map PV.str) = ws.map PyData.str
  | [] => rfl
  | w :: ws => by
    show PV.dat (.str w) :: PV.datL (ws.map PV.str) = _
    rw [datL_strs ws]
    rfl
theorem dat_str (a : Str) : (PV.str a).dat = .str a := rfl
theorem depth_str (a : Str) : (PyData.str a).depth = 0 := by simp [PyData.depth]
theorem pInB_s {a : Str} {ws : List Str} : pInB (.str a) (.lst (ws.map PV.str)) = some (decide (a ∈ ws)) := by
  unfold pInB
  dsimp only
  rw [isDL_strs, datL_strs, dat_str, depth_str, Nat.min_zero, if_pos (by rfl)]
  congr 1
  rw [List.any_map]
  have e : ∀ d : Str, ((fun d => PyData.eqv d (.str a)) ∘ PyData.str) d = decide (d = a) := fun d => by
    show PyData.eqv (.str d) (.str a) = _
    by_cases h : d = a <;> simp [PyData.eqv, h]
  by_cases h : a ∈ ws
  · rw [decide_eq_true h]
    exact List.any_eq_true.mpr ⟨a, h, by rw [e]; simp⟩
  · rw [decide_eq_false h]
    refine List.any_eq_false.mpr fun d hd => ?_
    rw [e]
    simp only [decide_eq_true_eq]
    intro z
    exact h (z ▸ hd)
@[simp] theorem pHas_s {a : Str} {ws : List Str} : pHas (.str a) (.lst (ws.map PV.str)) = some (.bl (decide (a ∈ ws))) := by
  show (pInB (.str a) (.lst (ws.map PV.str))).map PV.bl = _
  rw [pInB_s]
  rfl
@[simp] theorem pHasNot_s {a : Str} {ws : List Str} : pHasNot (.str a) (.lst (ws.map PV.str)) = some (.bl (!decide (a ∈ ws))) := by
  show (pInB (.str a) (.lst (ws.map PV.str))).map (fun b => PV.bl (!b)) = _
  rw [pInB_s]
  rfl
@[simp] theorem pHasNot_nil {a : Str} : pHasNot (.str a) (.lst []) = some (.bl true) := pHasNot_s (ws := [])
@[simp] theorem okPut_m {o : Option PV} : okPut (some (o.map SV.p)) = true := by cases o <;> rfl
theorem pigeon : ∀ (cs ws : List Str), cs.Nodup → ws.length < cs.length → ∃ c ∈ cs, c ∉ ws
  | [], _, _, h => by simp at h
  | c :: cs, ws, hn, h => by
    by_cases hc : c ∈ ws
    · have hn' := List.nodup_cons.mp hn
      have hl : (ws.erase c).length < cs.length := by
        rw [List.length_erase_of_mem hc]
        have := List.length_pos_of_mem hc
        rw [List.length_cons] at h
        omega
      obtain ⟨d, hd, hw⟩ := pigeon cs (ws.erase c) hn'.2 hl
      refine ⟨d, List.mem_cons_of_mem _ hd, fun hm => hw ?_⟩
      have : d ≠ c := fun e => hn'.1 (e ▸ hd)
      exact (List.mem_erase_of_ne this).mpr hm
    · exact ⟨c, List.mem_cons_self, hc⟩
end Kp
set_option Elab.async false
set_option linter.all false
set_option maxRecDepth 100000
set_option maxHeartbeats 4000000
namespace Kp
open PySem L2
section
variable {α β : Type} {S : Sto} {a : Option SV}
/-! ### more rules -/
def enE (x : PV) (S : Sto) (P : Kt (List PV)) : Prop := ∃ ys, x = .tup ys ∧ P (enumP 0 ys) S
@[simp] theorem enE_tup {xs : List PV} {P : Kt (List PV)} : enE (.tup xs) S P ↔ P (enumP 0 xs) S := ⟨fun ⟨_, e, p⟩ => by cases e; exact p, fun p => ⟨xs, rfl, p⟩⟩
@[simp] theorem e_mEnum {m : M PV} {P : Kt (List PV)} : wq (mEnum m) (a :: S) P ↔ wq m (a :: S) fun x S1 => enE x S1 P := by
  unfold mEnum
  rw [wq_bnd]
  constructor
  · refine fun h => wq_mono h fun x S' h => ?_
    cases x <;> try (exact (wq_none.mp h).elim)
    exact ⟨_, rfl, wq_ret.mp h⟩
  · refine fun h => wq_mono h fun x S' h => ?_
    obtain ⟨ys, rfl, h⟩ := h
    exact wq_ret.mpr h
def isMO (c : Nat) (m : Str) : Option (Option SV) → Bool
  | some (some (.o x)) => isObjM c m x
  | some (some (.i x)) => isObjM c m x
  | _ => false
theorem isM_eq {i c : Nat} {m : Str} {S : Sto} : isM i c m S = isMO c m S[i]? := by
  unfold isM isMO
  rfl
@[simp] theorem isMO_o {c : Nat} {m : Str} {fs : List (Str × PV)} : isMO c m (some (some (.o (.obj c fs)))) = (fs.lookup m).isNone := by simp [isMO, isObjM]
@[simp] theorem isMO_i {c : Nat} {m : Str} {fs : List (Str × PV)} : isMO c m (some (some (.i (.obj c fs)))) = (fs.lookup m).isNone := by simp [isMO, isObjM]
@[simp] theorem e_mMethI {i c : Nat} {m : Str} {f : PV → List PV → Option (PV × RO)} {ms : List (M PV)} {P : Kt PV} : wq (mMethI i c m f ms) (a :: S) P ↔ gdS (isMO c m (a :: S)[i]?) (a :: S) fun S0 => wq (mArgs ms) S0 fun xs S1 => wq (mIn i fun x => f x xs) S1 P := by
  unfold mMethI gdS
  rw [← isM_eq]
  constructor
  · rintro ⟨x, S', e, p⟩
    dsimp only at e
    split at e
    · rename_i h
      exact ⟨h, wq_bnd.mp ⟨x, S', e, p⟩⟩
    · cases e
  · rintro ⟨h, q⟩
    obtain ⟨x, S', e, p⟩ := wq_bnd.mpr q
    exact ⟨x, S', by dsimp only; rw [if_pos h]; exact e, p⟩
@[simp] theorem e_mIncF {i c : Nat} {f : Str} {n : Int} {P : Kt Fl} : wq (mIncF i c f n) (a :: S) P ↔ wq (updO i (pIncF c f n)) (a :: S) fun _ S1 => P .nx S1 := by
  unfold mIncF
  rw [wq_bnd]
  simp only [wq_ret]
@[simp] theorem e_mIns {i : Nat} {m n : M PV} {P : Kt Fl} : wq (mIns i m n) (a :: S) P ↔ gdS (isOT "list" i (a :: S)) (a :: S) fun S0 => wq m S0 fun x S1 => wq n S1 fun y S2 => wq (updR i fun l => fIns l [x, y]) S2 fun _ S3 => P .nx S3 := by
  show wq (mDrop (mMt "list" i fIns [m, n])) (a :: S) P ↔ _
  rw [wq_mDrop, wq_mMt]
  simp only [wq_mArgs_cons, wq_mArgs_nil]
  rfl
@[simp] theorem e_mExt {i : Nat} {m : M PV} {P : Kt Fl} : wq (mExt i m) (a :: S) P ↔ gdS (isOT "list" i (a :: S)) (a :: S) fun S0 => wq m S0 fun x S1 => wq (updR i fun l => fExt l [x]) S1 fun _ S3 => P .nx S3 := by
  show wq (mDrop (mMt "list" i fExt [m])) (a :: S) P ↔ _
  rw [wq_mDrop, wq_mMt]
  simp only [wq_mArgs_cons, wq_mArgs_nil]
  rfl
def mcE (mcs : List (List Str × Option Nat × M Fl)) (x : PV) (S : Sto) (P : Kt Fl) : Prop := ∃ u, x = .str u ∧ wq (mCases mcs u) S P
@[simp] theorem mcE_str {mcs : List (List Str × Option Nat × M Fl)} {u : Str} {P : Kt Fl} : mcE mcs (.str u) S P ↔ wq (mCases mcs u) S P := ⟨fun ⟨_, e, p⟩ => by cases e; exact p, fun p => ⟨u, rfl, p⟩⟩
@[simp] theorem e_mMatch {m : M PV} {mcs : List (List Str × Option Nat × M Fl)} {P : Kt Fl} : wq (mMatch m mcs) (a :: S) P ↔ wq m (a :: S) fun x S1 => mcE mcs x S1 P := by
  unfold mMatch
  rw [wq_bnd]
  constructor
  · refine fun h => wq_mono h fun x S' h => ?_
    cases x <;> try (exact (wq_none.mp h).elim)
    exact ⟨_, rfl, h⟩
  · refine fun h => wq_mono h fun x S' h => ?_
    obtain ⟨u, rfl, h⟩ := h
    exact h
@[simp] theorem e_mCases_nil {u : Str} {P : Kt Fl} : wq (mCases [] u) S P ↔ P .nx S := wq_ret
@[simp] theorem e_mCases_cons {ws : List Str} {i : Option Nat} {m : M Fl} {r : List (List Str × Option Nat × M Fl)} {u : Str} {P : Kt Fl} : wq (mCases ((ws, i, m) :: r) u) S P ↔ if u ∈ ws then wq (putAt i u m) S P else wq (mCases r u) S P := by
  show wq (if u ∈ ws then (putAt i u m) else mCases r u) S P ↔ _
  split <;> rfl
@[simp] theorem e_putAt_n {u : Str} {m : M Fl} {P : Kt Fl} : wq (putAt none u m) S P ↔ wq m S P := Iff.rfl
@[simp] theorem e_putAt_s {i : Nat} {u : Str} {m : M Fl} {P : Kt Fl} : wq (putAt (some i) u m) (a :: S) P ↔ wq (put i (.str u)) (a :: S) fun _ S1 => wq m S1 P := wq_bnd
theorem wq_while {c : M Bool} {m : M Fl} {P : Kt Fl} (I : Nat → Sto → Prop)
    (h0 : ∀ S, I 0 S → wq c S fun b S1 => b = false ∧ P .nx S1)
    (h1 : ∀ n S, I (n + 1) S → wq c S fun b S1 => b = true ∧ wq m S1 fun f S2 => f = .nx ∧ I n S2) :
    ∀ (n k : Nat) (S : Sto), I n S → n < k → wq (whileM c m k) S P
  | 0, 0, S, hi, hk => absurd hk (Nat.lt_irrefl _)
  | 0, k + 1, S, hi, hk => by
    obtain ⟨b, S1, e, rfl, p⟩ := h0 S hi
    exact ⟨.nx, S1, by unfold whileM; rw [e], p⟩
  | n + 1, 0, S, hi, hk => absurd hk (Nat.not_lt_zero _)
  | n + 1, k + 1, S, hi, hk => by
    obtain ⟨b, S1, e, rfl, f, S2, e2, rfl, hi2⟩ := h1 n S hi
    obtain ⟨f, S3, e3, p⟩ := wq_while I h0 h1 n k S2 hi2 (by omega)
    exact ⟨f, S3, by unfold whileM; rw [e]; dsimp only; rw [e2]; exact e3, p⟩
@[simp] theorem gT2_c {i j : Nat} {x y : PV} : gT [gN i, gN j] (.tup [x, y]) (a :: S) = (gN i x (a :: S)).bind fun S1 => gN j y S1 := by
  show gTs [gN i, gN j] [x, y] (a :: S) = _
  unfold gTs
  cases gN i x (a :: S) with
  | none => rfl
  | some S1 =>
    dsimp only [Option.bind]
    unfold gTs
    cases gN j y S1 with
    | none => rfl
    | some S2 => rfl
@[simp] theorem fIns_l {ys : List PV} {i : Int} {y : PV} : fIns (.lst ys) [.int i, y] = if ys.length < sizeLine ∧ 0 ≤ i ∧ i < 2 ^ 63 then some (.lst (ys.take i.toNat ++ [y] ++ ys.drop i.toNat), .non) else none := rfl
@[simp] theorem fExt_l {ys zs : List PV} : fExt (.lst ys) [.lst zs] = if ys.length + zs.length ≤ sizeLine then some (.lst (ys ++ zs), .non) else none := rfl
@[simp] theorem pCat_l {ys zs : List PV} : pCat (.lst ys) (.lst zs) = if ys.length + zs.length ≤ sizeLine then some (.lst (ys ++ zs)) else none := rfl
@[simp] theorem ansT_objF {k : Nat} {T : String} {fs : List (Str × PV)} : ansT (ocF k) T (.obj k fs) = some false := by
  show ocF k k = _
  unfold ocF
  rw [if_pos rfl]
@[simp] theorem ansO_str {oc : Nat → Option Bool} {x : Str} : ansO oc (.str x) = some false := rfl
@[simp] theorem ansO_non {oc : Nat → Option Bool} : ansO oc .non = some false := rfl
@[simp] theorem isN_obj {n : Bool} {c : Nat} {fs : List (Str × PV)} : isN n (.obj c fs) = .bl n := rfl
@[simp] theorem pIncF_obj {c : Nat} {f : Str} {n : Int} {fs : List (Str × PV)} : pIncF c f n (.obj c fs) = if fs.length < 100 then (match fs.lookup f with | some (.int k) => some (.obj c (putFP f (.int (k + n)) fs)) | _ => none) else none := by
  unfold pIncF
  dsimp only
  by_cases h : fs.length < 100
  · rw [if_pos (show c = c ∧ fs.length < 100 from ⟨rfl, h⟩), if_pos h]
    all_goals rfl
  · rw [if_neg (show ¬ (c = c ∧ fs.length < 100) from fun q => h q.2), if_neg h]
@[simp] theorem pSetF_obj {c : Nat} {f : Str} {v : PV} {fs : List (Str × PV)} : pSetF c f v (.obj c fs) = if fs.length < 100 then some (.obj c (putFP f v fs)) else none := by
  unfold pSetF
  by_cases h : fs.length < 100 <;> simp [h]
end
/-! ### rows of texts -/
theorem depthAll_strs : ∀ ws : List Str, PyData.depthAll (ws.map PyData.str) = 0
  | [] => by simp [PyData.depthAll]
  | w :: ws => by
    have := depthAll_strs ws
    simp only [List.map_cons, PyData.depthAll, depth_str]
    omega
theorem eqvAll_strs : ∀ us ws : List Str, PyData.eqvAll (us.map PyData.str) (ws.map PyData.str) = decide (us = ws)
  | [], [] => by simp [PyData.eqvAll]
  | [], q :: qs => by simp [PyData.eqvAll]
  | p :: ps, [] => by simp [PyData.eqvAll]
  | p :: ps, q :: qs => by
    rw [List.map_cons, List.map_cons, PyData.eqvAll, eqvAll_strs ps qs]
    by_cases h1 : p = q <;> by_cases h2 : ps = qs <;> simp [h1, h2, PyData.eqv]
theorem pEqB_strs (us ws : List Str) : pEqB (.tup (us.map .str)) (.tup (ws.map .str)) = some (decide (us = ws)) := by
  unfold pEqB
  have d : ∀ us : List Str, (PV.tup (us.map .str)).dat = .tuple (us.map .str) := fun us => by
    show PyData.tuple (PV.datL (us.map .str)) = _
    rw [datL_strs]
  have h1 : ∀ us : List Str, (PyData.tuple (us.map .str)).depth ≤ 1 := fun us => by
    simp only [PyData.depth, depthAll_strs]
    omega
  have h2 := h1 us
  have e : (PV.isD (.tup (us.map .str)) && PV.isD (.tup (ws.map .str)) && decide (min (PV.tup (us.map .str)).dat.depth (PV.tup (ws.map .str)).dat.depth ≤ 60)) = true := by
    rw [show PV.isD (.tup (us.map .str)) = true from isDL_strs us, show PV.isD (.tup (ws.map .str)) = true from isDL_strs ws, d, d, decide_eq_true (by omega)]
    rfl
  rw [if_pos e, d, d, PyData.eqv, eqvAll_strs]
@[simp] theorem pEq_strs (us ws : List Str) : pEq (.tup (us.map .str)) (.tup (ws.map .str)) = some (.bl (decide (us = ws))) := by
  unfold pEq
  rw [pEqB_strs]
  rfl
@[simp] theorem pNe_strs (us ws : List Str) : pNe (.tup (us.map .str)) (.tup (ws.map .str)) = some (.bl (!decide (us = ws))) := by
  unfold pNe
  rw [pEqB_strs]
  rfl
theorem pInB_t {a : Str} {ws : List Str} : pInB (.str a) (.tup (ws.map PV.str)) = some (decide (a ∈ ws)) := by
  unfold pInB
  dsimp only
  rw [isDL_strs, datL_strs, dat_str, depth_str, Nat.min_zero, if_pos (by rfl)]
  congr 1
  rw [List.any_map]
  have e : ∀ d : Str, ((fun d => PyData.eqv d (.str a)) ∘ PyData.str) d = decide (d = a) := fun d => by
    show PyData.eqv (.str d) (.str a) = _
    by_cases h : d = a <;> simp [PyData.eqv, h]
  by_cases h : a ∈ ws
  · rw [decide_eq_true h]
    exact List.any_eq_true.mpr ⟨a, h, by rw [e]; simp⟩
  · rw [decide_eq_false h]
    refine List.any_eq_false.mpr fun d hd => ?_
    rw [e]
    simp only [decide_eq_true_eq]
    intro z
    exact h (z ▸ hd)
@[simp] theorem pHas_t {a : Str} {ws : List Str} : pHas (.str a) (.tup (ws.map PV.str)) = some (.bl (decide (a ∈ ws))) := by
  show (pInB (.str a) (.tup (ws.map PV.str))).map PV.bl = _
  rw [pInB_t]
  rfl
@[simp] theorem pHasNot_t {a : Str} {ws : List Str} : pHasNot (.str a) (.tup (ws.map PV.str)) = some (.bl (!decide (a ∈ ws))) := by
  show (pInB (.str a) (.tup (ws.map PV.str))).map (fun b => PV.bl (!b)) = _
  rw [pInB_t]
  rfl
/-! ### a line of words -/
def Ln (ws : List Str) : Str := Txt.join " " ws
def wd (w : Str) : Prop := (tx w).length ≤ 20 ∧ 32 ∉ tx w
def wds (ws : List Str) : Prop := ws ≠ [] ∧ ws.length ≤ 20 ∧ ∀ w ∈ ws, wd w
theorem tx_S (w : Str) : SX.S (tx w) = w := SX.S_tl w
theorem ln_S (ws : List Str) : Ln ws = SX.S (TL.joinL [32] (ws.map tx)) := by
  have e : ws = (ws.map tx).map SX.S := by
    rw [List.map_map]
    conv => lhs; rw [← List.map_id ws]
    exact List.map_congr_left fun w _ => (tx_S w).symm
  have e2 : (" " : Str) = SX.S [32] := by decide +kernel
  unfold Ln
  rw [e2]
  conv => lhs; rw [e]
  rw [SX.join_S]
theorem split_ln {ws : List Str} (h : wds ws) : Txt.split (Ln ws) " " = ws := by
  have e2 : (" " : Str) = SX.S [32] := by decide +kernel
  rw [ln_S, e2, SX.split_S (by decide) (by decide), SX.spl_join (by simp; exact h.1) (fun p hp => by
    obtain ⟨w, hw, rfl⟩ := List.mem_map.mp hp
    exact (h.2.2 w hw).2), List.map_map]
  conv => rhs; rw [← List.map_id ws]
  exact List.map_congr_left fun w _ => tx_S w
theorem joinL_len : ∀ {ps : List (List Nat)}, (∀ p ∈ ps, p.length ≤ 20) → (TL.joinL [32] ps).length ≤ 21 * ps.length
  | [], _ => by simp [TL.joinL]
  | [p], h => by
    have := h p List.mem_cons_self
    simp [TL.joinL]
    omega
  | p :: q :: r, h => by
    have h1 := h p List.mem_cons_self
    have h2 := joinL_len (ps := q :: r) fun x hx => h x (List.mem_cons_of_mem _ hx)
    have e : TL.joinL [32] (p :: q :: r) = p ++ ([32] ++ TL.joinL [32] (q :: r)) := rfl
    rw [e, List.length_append, List.length_append, List.length_cons]
    simp only [List.length_singleton, List.length_cons, List.length_nil] at h2 ⊢
    omega
theorem ln_len {ws : List Str} (h : wds ws) : (Ln ws).length ≤ 420 := by
  rw [ln_S, SX.S_len]
  have := joinL_len (ps := ws.map tx) fun p hp => by
    obtain ⟨w, hw, rfl⟩ := List.mem_map.mp hp
    exact (h.2.2 w hw).1
  have h2 := h.2.1
  rw [List.length_map] at this
  omega
theorem sum_lens : ∀ {ws : List Str}, (∀ w ∈ ws, wd w) → (ws.map (·.length)).sum ≤ 20 * ws.length
  | [], _ => by simp
  | w :: ws, h => by
    have h1 := (h w List.mem_cons_self).1
    rw [tx_len] at h1
    have := sum_lens fun x hx => h x (List.mem_cons_of_mem _ hx)
    rw [List.map_cons, List.sum_cons, List.length_cons]
    omega
theorem len_sp : Str.length (Str.ofString " ") = 1 := by decide +kernel
@[simp] theorem pJoin_ln {ws : List Str} (h : wds ws) : pJoin (.str " ") (.lst (ws.map .str)) = some (.str (Ln ws)) := by
  unfold pJoin
  dsimp only
  have e : (itemsP (.lst (ws.map PV.str))).bind strsP = some ws := strsP_map _
  rw [e]
  dsimp only
  have h1 := sum_lens h.2.2
  have h2 := h.2.1
  have h3 := ln_len h
  have h3' : (Txt.join " " ws).length ≤ 420 := h3
  rw [szL, len_sp, if_pos (by omega)]
  rfl
@[simp] theorem pSplit_ln {ws : List Str} (h : wds ws) : pSplit (.str (Ln ws)) (.str " ") = some (.lst (ws.map .str)) := by
  unfold pSplit
  dsimp only
  have h3 := ln_len h
  rw [split_ln h, szL, len_sp, if_pos]
  refine ⟨rfl, by omega, List.all_eq_true.mpr fun w hw => ?_⟩
  have := (h.2.2 w hw).1
  rw [tx_len] at this
  exact decide_eq_true (by omega)
end Kp
set_option Elab.async false
set_option linter.all false
set_option maxRecDepth 100000
set_option maxHeartbeats 4000000
namespace Kp
open PySem L2
theorem ofs_inj {a b : String} (h : Str.ofString a = Str.ofString b) : a = b := by
  have e : ∀ s, Str.ofString s = Str.ofStringByList s := fun s => congrFun Str.ofString_eq_byList s
  rw [e, e] at h
  have h2 : a.toList.map Char.toNat = b.toList.map Char.toNat := congrArg (fun x : Str => x.cps.toList) h
  have h3 : a.toList = b.toList := List.map_inj_right (fun x y q => Char.toNat_inj.mp q) |>.mp h2
  exact String.toList_inj.mp h3
@[simp] theorem ofs_eq {a b : String} : (Str.ofString a = Str.ofString b) ↔ a = b := ⟨ofs_inj, fun h => by rw [h]⟩
@[simp] theorem ofs_beq {a b : String} : (Str.ofString a == Str.ofString b) = (a == b) := by
  by_cases h : a = b
  · subst h
    simp
  · have h2 : ¬ Str.ofString a = Str.ofString b := fun q => h (ofs_inj q)
    rw [beq_eq_false_iff_ne.mpr h, beq_eq_false_iff_ne.mpr h2]
theorem loop_nil {g : PV → Sto → Option Sto} {m : M Fl} {S : Sto} {P : Kt Fl} : wq (loop g m []) S P ↔ P .nx S := wq_ret
theorem loop_cons {g : PV → Sto → Option Sto} {m : M Fl} {S : Sto} {P : Kt Fl} {y : PV} {ys : List PV} (h : ∃ S1, g y S = some S1 ∧ wq m S1 (trn (fun S2 => wq (loop g m ys) S2 P) P)) : wq (loop g m (y :: ys)) S P := by
  obtain ⟨S1, e1, f, S2, e2, q⟩ := h
  have step : loop g m (y :: ys) S = match m S1 with
    | none => none
    | some (.ok .nx S2) => loop g m ys S2
    | some (.ok .ct S2) => loop g m ys S2
    | some (.ok .bk S2) => some (.ok .nx S2)
    | some r => some r := by
    show (match g y S with | none => none | some S1 => _) = _
    rw [e1]
    all_goals rfl
  cases f with
  | nx =>
    obtain ⟨x, S', e, p⟩ := q
    exact ⟨x, S', by rw [step, e2]; exact e, p⟩
  | ct =>
    obtain ⟨x, S', e, p⟩ := q
    exact ⟨x, S', by rw [step, e2]; exact e, p⟩
  | bk => exact ⟨.nx, S2, by rw [step, e2], q⟩
  | rt y => exact ⟨.rt y, S2, by rw [step, e2], q⟩
theorem cutS_from (z : Str) (k : Nat) : tx (cutS z (some (k : Int)) none) = (tx z).drop k := by
  unfold tx cutS
  rw [HT.sIx_nat]
  have hl : z.length = z.cps.toList.length := rfl
  show (z.cps.toList.drop (min k z.length)).take (z.length - min k z.length) = _
  rw [hl]
  rcases Nat.le_total k z.cps.toList.length with h | h
  · rw [Nat.min_eq_left h, List.take_of_length_le (by rw [List.length_drop]; exact Nat.le_refl _)]
  · rw [Nat.min_eq_right h, List.drop_of_length_le h, List.drop_of_length_le (Nat.le_refl _)]
    exact List.take_nil
theorem blsP_tt : ∀ n : Nat, blsP (List.replicate n (.bl true)) = some (List.replicate n true)
  | 0 => rfl
  | n + 1 => by
    show (blsP (List.replicate n (.bl true))).map (true :: ·) = _
    rw [blsP_tt n]
    rfl
theorem pAll_tt {zs : List PV} (h : ∀ z ∈ zs, z = .bl true) : pAll [.lst zs] = some (.bl true) := by
  have e : zs = List.replicate zs.length (.bl true) := List.eq_replicate_iff.mpr ⟨rfl, h⟩
  rw [e]
  show (blsP (List.replicate zs.length (.bl true))).map (fun ns => PV.bl (ns.all id)) = _
  rw [blsP_tt]
  show some (PV.bl ((List.replicate zs.length true).all id)) = _
  congr 2
  exact List.all_eq_true.mpr fun b hb => (List.mem_replicate.mp hb).2
@[simp] theorem putFP_nil {f : Str} {v : PV} : putFP f v [] = [(f, v)] := rfl
@[simp] theorem putFP_cons {f g : Str} {v x : PV} {r : List (Str × PV)} : putFP f v ((g, x) :: r) = if g = f then (g, v) :: r else (g, x) :: putFP f v r := rfl
end Kp
set_option Elab.async false
set_option linter.all false
set_option maxRecDepth 100000
set_option maxHeartbeats 4000000
namespace Kp
open PySem L2
/-! ### texts in order -/
def tl_ (a b : Str) : Prop := tx a < tx b
/-! ### two targets -/
section
variable {S : Sto} {a : Option SV}
@[simp] theorem wipeS_c2 {v w : Nat} : wipeS (a :: S) [v, w] = ((a :: S).set w none).set v none := rfl
@[simp] theorem backS_c2 {b : Option SV} {S2 : Sto} {v w : Nat} : backS (a :: S) (b :: S2) [v, w] = ((b :: S2).set w ((a :: S)[w]?.join)).set v ((a :: S)[v]?.join) := rfl
@[simp] theorem plainAt_c2 {v w : Nat} : plainAt (a :: S) [v, w] = (plainAt (a :: S) [v] && plainAt (a :: S) [w]) := by
  unfold plainAt
  simp only [List.all_cons, List.all_nil, Bool.and_true]
/-! ### defs that give a fresh object -/
/-! ### a def as a value -/
end
end Kp
namespace Kp
open PySem L2
end Kp
set_option Elab.async false
set_option linter.all false
set_option maxRecDepth 100000
set_option maxHeartbeats 4000000
namespace Kp
open PySem L2
section
variable {α β : Type} {S : Sto} {a : Option SV}
/-! ### zip, index, calls with defaults, stores side by side -/
def ziE (xs : List PV) (S : Sto) (P : Kt (List PV)) : Prop := ∃ us vs, xs = [.tup us, .tup vs] ∧ P (zipP us vs) S
@[simp] theorem ziE_tt {us vs : List PV} {P : Kt (List PV)} : ziE [.tup us, .tup vs] S P ↔ P (zipP us vs) S := ⟨fun ⟨_, _, e, p⟩ => by cases e; exact p, fun p => ⟨us, vs, rfl, p⟩⟩
@[simp] theorem e_mZip {ms : List (M PV)} {P : Kt (List PV)} : wq (mZip ms) (a :: S) P ↔ wq (mArgs ms) (a :: S) fun xs S1 => ziE xs S1 P := by
  unfold mZip
  rw [wq_bnd]
  constructor
  · refine fun h => wq_mono h fun xs S' h => ?_
    split at h
    · exact ⟨_, _, rfl, wq_ret.mp h⟩
    · exact (wq_none.mp h).elim
  · refine fun h => wq_mono h fun xs S' h => ?_
    obtain ⟨us, vs, rfl, h⟩ := h
    exact wq_ret.mpr h
@[simp] theorem e_mIndexOf {mo me : M PV} {P : Kt PV} : wq (mIndexOf mo me) (a :: S) P ↔ wq mo (a :: S) fun c S1 => exS (asSq c) S1 fun ys S2 => wq me S2 fun x S3 => exS (idxB ys x) S3 P := by
  unfold mIndexOf exS
  simp only [wq_bnd, wq_lift]
@[simp] theorem asSq_t {ys : List PV} : asSq (.tup ys) = some ys := rfl
@[simp] theorem asSq_l {ys : List PV} : asSq (.lst ys) = some ys := rfl
@[simp] theorem e_mCallD {f : List PV → Option RO} {ds : List PV} {ms : List (M PV)} {P : Kt PV} : wq (mCallD f ds ms) (a :: S) P ↔ wq (mArgs ms) (a :: S) fun xs S1 => exR (f (xs ++ ds)) S1 P := by
  unfold mCallD exR
  simp only [wq_bnd, wq_roM]
@[simp] theorem e_mPar {is : List Nat} {ms : List (M PV)} {P : Kt Fl} : wq (mPar is ms) (a :: S) P ↔ wq (mArgs ms) (a :: S) fun xs S1 => wq (puts is xs) S1 fun _ S2 => P .nx S2 := by
  unfold mPar
  simp only [wq_bnd, wq_ret]
@[simp] theorem e_puts_nil {P : Kt Unit} : wq (puts [] []) (a :: S) P ↔ P () (a :: S) := wq_ret
@[simp] theorem e_puts_cons {i : Nat} {is : List Nat} {x : PV} {xs : List PV} {P : Kt Unit} : wq (puts (i :: is) (x :: xs)) (a :: S) P ↔ wq (put i x) (a :: S) fun _ S1 => wq (puts is xs) S1 P := by
  show wq (bnd (put i x) fun _ => puts is xs) (a :: S) P ↔ _
  rw [wq_bnd]
@[simp] theorem pMin2_i {i j : Int} : pMin2 [.int i, .int j] = some (.int (if j < i then j else i)) := rfl
@[simp] theorem pMax2_i {i j : Int} : pMax2 [.int i, .int j] = some (.int (if j > i then j else i)) := rfl
end
theorem eqsD_strs (ws : List Str) (w : Str) : eqsD (PV.datL (ws.map .str)) (.str w) = ws.map fun s => decide (s = w) := by
  rw [datL_strs]
  unfold eqsD
  rw [List.map_map]
  refine List.map_congr_left fun s _ => ?_
  show PyData.eqv (.str s) (.str w) = _
  by_cases h : s = w
  · subst h
    simp [PyData.eqv]
  · simp [PyData.eqv, h]
theorem idx_map {w : Str} : ∀ ws : List Str, (ws.map fun s => decide (s = w)).idxOf true = ws.idxOf w
  | [] => rfl
  | s :: ws => by
    rw [List.map_cons, List.idxOf_cons, List.idxOf_cons, idx_map ws]
    by_cases h : s = w
    · simp [h]
    · have hb : (s == w) = false := by simpa using h
      simp [h, hb]
theorem idxB_strs {ws : List Str} {w : Str} (h : w ∈ ws) : idxB (ws.map .str) (.str w) = some (.int (ws.idxOf w : Nat)) := by
  unfold idxB
  have e1 : PV.isDL (ws.map .str) = true := isDL_strs ws
  have e2 : (PV.str w).dat = .str w := rfl
  have e3 : PyData.depthAll (PV.datL (ws.map .str)) = 0 := by rw [datL_strs]; exact depthAll_strs ws
  rw [e2, e3, eqsD_strs, idx_map, e1]
  have e4 : (ws.map fun s => decide (s = w)).contains true = true := by
    rw [List.contains_iff_mem, List.mem_map]
    exact ⟨w, h, by simp⟩
  rw [e4]
  simp [PV.isD]
end Kp
set_option Elab.async false
set_option linter.all false
set_option maxRecDepth 100000
set_option maxHeartbeats 4000000
namespace Kp
open PySem L2
def getS (kvs : List (Str × Str)) (w : Str) : Option Str := (kvs.find? fun p => decide (p.1 = w)).map (·.2)
section
variable {S : Sto} {a : Option SV}
@[simp] theorem gT_tup {gs : List (PV → Sto → Option Sto)} {xs : List PV} : gT gs (.tup xs) S = gTs gs xs S := rfl
@[simp] theorem gTs_nil : gTs [] [] S = some S := rfl
@[simp] theorem gTs_cons {g : PV → Sto → Option Sto} {gs : List (PV → Sto → Option Sto)} {y : PV} {ys : List PV} : gTs (g :: gs) (y :: ys) S = (g y S).bind (gTs gs ys) := by
  show (match g y S with | some S' => gTs gs ys S' | none => none) = _
  cases g y S <;> rfl
end
/-! ### rows of pairs of texts -/
def app (ps : List (Str × Str)) (w : Str) : Str := (getS ps w).getD w
end Kp
set_option Elab.async false
set_option linter.all false
set_option maxRecDepth 100000
set_option maxHeartbeats 4000000
namespace Kp
open PySem L2
section
variable {α : Type} {S : Sto} {a : Option SV}
/-! ### an own list is lent -/
end
end Kp
set_option Elab.async false
set_option linter.all false
set_option maxRecDepth 100000
set_option maxHeartbeats 4000000
namespace Kp
open PySem L2
section
variable {α β : Type} {S : Sto} {a : Option SV}
/-! ### an end by an exception: c is raised with the fields fs -/
def xq (m : M α) (S : Sto) (E : Nat → List (Str × PV) → Sto → Prop) : Prop := ∃ c fs S', m S = some (.ex c fs S') ∧ E c fs S'
variable {E : Nat → List (Str × PV) → Sto → Prop}
theorem xq_bnd1 {m : M α} {k : α → M β} (h : xq m S E) : xq (bnd m k) S E := by
  obtain ⟨c, fs, S', e, q⟩ := h
  exact ⟨c, fs, S', by unfold bnd; rw [e], q⟩
theorem xq_bnd2 {m : M α} {k : α → M β} (h : wq m S fun x S1 => xq (k x) S1 E) : xq (bnd m k) S E := by
  obtain ⟨x, S1, e, c, fs, S', e2, q⟩ := h
  exact ⟨c, fs, S', by unfold bnd; rw [e]; exact e2, q⟩
theorem xq_seq1 {m u : M Fl} (h : xq m S E) : xq (mSeq m u) S E := xq_bnd1 h
theorem xq_seq2 {m u : M Fl} (h : wq m S fun f S1 => f = .nx ∧ xq u S1 E) : xq (mSeq m u) S E := xq_bnd2 (wq_mono h fun f S1 q => by obtain ⟨rfl, q⟩ := q; exact q)
theorem xq_if {c : M Bool} {m n : M Fl} (h : wq c S fun b S1 => xq (if b = true then m else n) S1 E) : xq (mIf c m n) S E := xq_bnd2 h
theorem xq_raise {c : Nat} {fl : List (Str × Nat)} {ms : List (M PV)} (h : wq (mArgs ms) S fun xs S1 => E c (fldsP fl xs) S1) : xq (mRaise c fl ms) S E := xq_bnd2 (wq_mono h fun xs S1 q => ⟨_, _, _, rfl, q⟩)
theorem xq_set {i : Nat} {m : M PV} (h : xq m S E) : xq (mSet i m) S E := xq_bnd1 h
theorem xq_drop {m : M PV} (h : xq m S E) : xq (mDrop m) S E := xq_bnd1 h
theorem xq_call {f : List PV → Option RO} {ms : List (M PV)} (h : wq (mArgs ms) S fun xs S1 => ∃ c fs, f xs = some (.exc c fs) ∧ E c fs S1) : xq (mCall f ms) S E := by
  unfold mCall
  refine xq_bnd2 (wq_mono h fun xs S1 q => ?_)
  obtain ⟨c, fs, e, q⟩ := q
  refine ⟨c, fs, S1, ?_, q⟩
  unfold roM
  rw [e]
theorem xq_for {mi : M (List PV)} {g : PV → Sto → Option Sto} {m : M Fl} (h : wq mi S fun ys S1 => xq (loop g m ys) S1 E) : xq (mFor mi g m) S E := by
  obtain ⟨ys, S1, e, c, fs, S', e2, q⟩ := h
  exact ⟨c, fs, S', by unfold mFor; rw [e]; exact e2, q⟩
theorem xq_loop {g : PV → Sto → Option Sto} {m : M Fl} (I : List PV → Sto → Prop) (h0 : ∀ S, I [] S → False)
    (h1 : ∀ y ys S, I (y :: ys) S → ∃ S1, g y S = some S1 ∧ ((wq m S1 fun f S2 => f = .nx ∧ I ys S2) ∨ xq m S1 E)) : ∀ {ys : List PV} {S : Sto}, I ys S → xq (loop g m ys) S E
  | [], S, h => (h0 S h).elim
  | y :: ys, S, h => by
    obtain ⟨S1, e1, q⟩ := h1 y ys S h
    have step : loop g m (y :: ys) S = match m S1 with
      | none => none
      | some (.ok .nx S2) => loop g m ys S2
      | some (.ok .ct S2) => loop g m ys S2
      | some (.ok .bk S2) => some (.ok .nx S2)
      | some r => some r := by
      show (match g y S with | none => none | some S1 => _) = _
      rw [e1]
      all_goals rfl
    rcases q with ⟨f, S2, e2, rfl, q⟩ | ⟨c, fs, S2, e2, q⟩
    · obtain ⟨c, fs, S', e, p⟩ := xq_loop I h0 h1 (ys := ys) (S := S2) q
      exact ⟨c, fs, S', by rw [step, e2]; exact e, p⟩
    · exact ⟨c, fs, S2, by rw [step, e2], q⟩
theorem runP_exc {N : Nat} {m : M Fl} {xs : List PV} {c : Nat} {fs : List (Str × PV)} (h : xq m (stoP N xs) fun c' fs' _ => c' = c ∧ fs' = fs) : runP N m xs = some (.exc c fs) := by
  obtain ⟨c', fs', S', e, rfl, rfl⟩ := h
  unfold runP
  rw [e]
  rfl
theorem wq_try {cs : List Nat} {sub : Nat → Option Bool} {i : Nat} {mb : M Fl} {msu : Addr → Addr → Nat → M Fl} {P : Kt Fl} {c : Nat} {fs : List (Str × PV)} {S1 : Sto} (hb : mb S = some (.ex c fs S1)) (hc : c ∈ cs) (hs : sub c = some true) (hi : ∃ o, S1[i]? = some o ∧ ∀ x, o ≠ some (.i x))
    {r : Fl} {S2 : Sto} (hu : ∀ a d, wq (msu a d c) (S1.set i (some (.p (.xo a d c fs)))) fun f S3 => f = r ∧ S3.set i none = S2 ∧ ∀ x, S3[i]? ≠ some (some (.i x))) (p : P r S2) : wq (mTry cs sub i mb msu) S P := by
  have key : ∀ a d, finX i (bnd (put i (.xo a d c fs)) (fun _ => msu a d c) S1) = some (.ok r S2) := fun a d => by
    obtain ⟨f, S3, e, rfl, e2, n⟩ := hu a d
    have ep : put i (.xo a d c fs) S1 = some (.ok () (S1.set i (some (.p (.xo a d c fs))))) := by
      obtain ⟨o, ho, hn⟩ := hi
      unfold put
      rw [ho]
      cases o with
      | none => rfl
      | some v =>
        cases v with
        | i x => exact absurd rfl (hn x)
        | p x => rfl
        | o x => rfl
    have eb : bnd (put i (.xo a d c fs)) (fun _ => msu a d c) S1 = some (.ok f S3) := by
      unfold bnd
      rw [ep]
      exact e
    rw [eb]
    unfold finX
    rw [← e2]
    cases h3 : S3[i]? with
    | none => simp only [h3]
    | some o =>
      cases o with
      | none => simp only [h3]
      | some v =>
        cases v with
        | i x => exact absurd h3 (n x)
        | p x => simp only [h3]
        | o x => simp only [h3]
  refine ⟨r, S2, ?_, p⟩
  unfold mTry
  rw [hb]
  simp only [hc, if_true, hs]
  exact uniq_of key
@[simp] theorem revT_t {xs : List PV} : revT (.tup xs) (.int (-1)) = some (.tup xs.reverse) := rfl
@[simp] theorem e_mAugI {i : Nat} {g : Int → Int → Int} {m : M PV} {P : Kt Fl} : wq (mAugI i g m) (a :: S) P ↔ ∃ x, intAt i (a :: S) = some x ∧ wq m (a :: S) fun y S1 => ∃ z, y = .int z ∧ wq (put i (.int (g x z))) S1 fun _ S2 => P .nx S2 := by
  have k : ∀ (o : Option Int), (∀ S0, intAt i S0 = o → True) → True := fun _ _ => trivial
  constructor
  · rintro ⟨f, S', e, p⟩
    unfold mAugI at e
    split at e
    · rename_i x ex
      refine ⟨x, ex, ?_⟩
      unfold bnd at e
      cases em : m (a :: S) with
      | none => rw [em] at e; cases e
      | some r =>
        rw [em] at e
        cases r with
        | ex c fs S1 => cases e
        | ok y S1 =>
          refine ⟨y, S1, em, ?_⟩
          cases y with
          | int z =>
            refine ⟨z, rfl, ?_⟩
            have e' : bnd (put i (.int (g x z))) (fun _ => Kp.ret Fl.nx) S1 = some (.ok f S') := e
            unfold bnd at e'
            cases ep : put i (.int (g x z)) S1 with
            | none => rw [ep] at e'; cases e'
            | some r =>
              rw [ep] at e'
              cases r with
              | ex c fs S2 => cases e'
              | ok u S2 => cases e'; exact ⟨u, _, ep, p⟩
          | _ => cases e
    · cases e
  · rintro ⟨x, ex, y, S1, em, z, rfl, u, S2, ep, p⟩
    refine ⟨.nx, S2, ?_, p⟩
    unfold mAugI
    simp only [ex]
    unfold bnd
    rw [em]
    simp only [ep]
    rfl
end
/-! ### the caught one -/
def xoE (o : Option (Option SV)) (a d : Addr) (c : Nat) (S : Sto) (P : Kt (List (Str × PV))) : Prop := match o with
  | some (some (.p (.xo a' d' c' fs))) => (a' = a ∧ d' = d ∧ c' = c) ∧ P fs S
  | _ => False
@[simp] theorem xoE_p {a d : Addr} {c : Nat} {fs : List (Str × PV)} {S : Sto} {P : Kt (List (Str × PV))} : xoE (some (some (.p (.xo a d c fs)))) a d c S P ↔ P fs S := ⟨fun h => h.2, fun p => ⟨⟨rfl, rfl, rfl⟩, p⟩⟩
@[simp] theorem e_xoAt {S : Sto} {b : Option SV} {i : Nat} {a d : Addr} {c : Nat} {P : Kt (List (Str × PV))} : wq (xoAt i a d c) (b :: S) P ↔ xoE (b :: S)[i]? a d c (b :: S) P := by
  unfold xoAt xoE
  constructor
  · rintro ⟨x, S', e, p⟩
    dsimp only at e
    split at e
    · split at e
      · rename_i h h2
        cases e
        rw [h]
        exact ⟨h2, p⟩
      · cases e
    · cases e
  · intro h
    split at h
    · rename_i a' d' c' fs e
      refine ⟨fs, b :: S, ?_, h.2⟩
      dsimp only
      rw [e]
      dsimp only
      rw [if_pos h.1]
    · exact h.elim
@[simp] theorem e_mIsE {S : Sto} {b : Option SV} {i : Nat} {a d : Addr} {c : Nat} {v : Bool} {P : Kt PV} : wq (mIsE i a d c v) (b :: S) P ↔ wq (xoAt i a d c) (b :: S) fun _ S1 => P (.bl v) S1 := by
  unfold mIsE
  simp only [wq_bnd, wq_ret]
@[simp] theorem e_mXf {S : Sto} {b : Option SV} {i : Nat} {a d : Addr} {c : Nat} {f : Str} {P : Kt PV} : wq (mXf i a d c f) (b :: S) P ↔ wq (xoAt i a d c) (b :: S) fun fs S1 => exS (fs.lookup f) S1 P := by
  unfold mXf
  simp only [wq_bnd, wq_lift]
  rfl
end Kp
set_option Elab.async false
set_option linter.all false
set_option maxRecDepth 100000
set_option maxHeartbeats 4000000
namespace Kp
open PySem L2
section
variable {α β : Type} {S : Sto} {a : Option SV}
/-! ### zip of a tuple with a tuple or a list -/
end
end Kp
set_option Elab.async false
set_option linter.all false
set_option maxRecDepth 100000
set_option maxHeartbeats 4000000
namespace Kp
open PySem L2
section
variable {α β : Type} {S : Sto} {a : Option SV}
/-! ### two fors, dict displays, is True, steps -/
end
end Kp
set_option Elab.async false
set_option linter.all false
set_option maxRecDepth 100000
set_option maxHeartbeats 4000000
namespace Kp
open PySem L2
/-! ### how long what is shown is -/
end Kp
set_option Elab.async false
set_option linter.all false
set_option maxRecDepth 100000
set_option maxHeartbeats 4000000
namespace Kp
open PySem L2
/-! ### both ends at once: P where it answers, E where an exception leaves -/
abbrev Ke := Nat → List (Str × PV) → Sto → Prop
def rsE {α : Type} (P : Kt α) (E : Ke) : Rs α → Prop
  | .ok x S => P x S
  | .ex c fs S => E c fs S
def wr {α : Type} (m : M α) (S : Sto) (P : Kt α) (E : Ke) : Prop := ∃ r, m S = some r ∧ rsE P E r
section
variable {α β : Type} {S : Sto} {E : Ke}
theorem wr_mono {m : M α} {P Q : Kt α} {E E' : Ke} (h : wr m S P E) (k : ∀ x S', P x S' → Q x S') (k2 : ∀ c fs S', E c fs S' → E' c fs S') : wr m S Q E' := by
  obtain ⟨r, e, p⟩ := h
  refine ⟨r, e, ?_⟩
  cases r with
  | ok x S' => exact k _ _ p
  | ex c fs S' => exact k2 _ _ _ p
theorem wr_wq {m : M α} {P : Kt α} (h : wq m S P) : wr m S P E := let ⟨x, S', e, p⟩ := h; ⟨_, e, p⟩
theorem wr_xq {m : M α} {P : Kt α} (h : xq m S E) : wr m S P E := let ⟨c, fs, S', e, p⟩ := h; ⟨_, e, p⟩
theorem wr_leaf {m : M α} {P : Kt α} (h : ∀ c fs S', m S ≠ some (.ex c fs S')) : wr m S P E ↔ wq m S P := by
  constructor
  · rintro ⟨r, e, p⟩
    cases r with
    | ok x S' => exact ⟨x, S', e, p⟩
    | ex c fs S' => exact absurd e (h _ _ _)
  · exact wr_wq
theorem wr_ret {x : α} {P : Kt α} : wr (ret x) S P E ↔ P x S := (wr_leaf fun _ _ _ e => by cases e).trans wq_ret
theorem wr_bnd {m : M α} {k : α → M β} {P : Kt β} : wr (bnd m k) S P E ↔ wr m S (fun x S1 => wr (k x) S1 P E) E := by
  constructor
  · rintro ⟨r, e, p⟩
    unfold bnd at e
    split at e
    · rename_i x S1 e1
      exact ⟨_, e1, r, e, p⟩
    · rename_i c fs S1 e1
      cases e
      exact ⟨_, e1, p⟩
    · cases e
  · rintro ⟨r, e, p⟩
    unfold wr bnd
    rw [e]
    cases r with
    | ok x S1 => exact p
    | ex c fs S1 => exact ⟨_, rfl, p⟩
theorem wr_lift {o : Option α} {P : Kt α} : wr (lift o) S P E ↔ exS o S P := (wr_leaf fun _ _ _ e => by obtain ⟨z, _, q⟩ := lift_eq e; cases q).trans wq_lift
@[simp] theorem wr_none {P : Kt α} : wr (fun _ => none : M α) S P E ↔ False := ⟨fun ⟨_, e, _⟩ => (by cases e), False.elim⟩
def brR (b : Bool) (m n : M α) (S : Sto) (P : Kt α) (E : Ke) : Prop := (b = true → wr m S P E) ∧ (b = false → wr n S P E)
@[simp] theorem brR_true {m n : M α} {P : Kt α} : brR true m n S P E ↔ wr m S P E := ⟨fun h => h.1 rfl, fun a => ⟨fun _ => a, fun q => (by cases q)⟩⟩
@[simp] theorem brR_false {m n : M α} {P : Kt α} : brR false m n S P E ↔ wr n S P E := ⟨fun h => h.2 rfl, fun a => ⟨fun q => (by cases q), fun _ => a⟩⟩
theorem brR_ite {b : Bool} {m n : M α} {P : Kt α} : wr (if b = true then m else n) S P E ↔ brR b m n S P E := by
  cases b <;> simp
/-- behind a first statement -/
def aftR (u : M Fl) (P : Kt Fl) (E : Ke) : Kt Fl
  | .nx, S => wr u S P E
  | .rt y, S => P (.rt y) S
  | .bk, S => P .bk S
  | .ct, S => P .ct S
@[simp] theorem aftR_nx {u : M Fl} {P : Kt Fl} : aftR u P E .nx S ↔ wr u S P E := Iff.rfl
@[simp] theorem aftR_rt {u : M Fl} {P : Kt Fl} {y : PV} : aftR u P E (.rt y) S ↔ P (.rt y) S := Iff.rfl
/-- behind a call -/
def exRR (o : Option RO) (S : Sto) (P : Kt PV) (E : Ke) : Prop := match o with
  | some (.ret y) => P y S
  | some (.exc c fs) => E c fs S
  | none => False
@[simp] theorem exRR_ret {y : PV} {P : Kt PV} : exRR (some (.ret y)) S P E ↔ P y S := Iff.rfl
@[simp] theorem exRR_exc {c : Nat} {fs : List (Str × PV)} {P : Kt PV} : exRR (some (.exc c fs)) S P E ↔ E c fs S := Iff.rfl
theorem wr_roM {o : Option RO} {P : Kt PV} : wr (roM o) S P E ↔ exRR o S P E := by
  unfold roM exRR
  cases o with
  | none => exact wr_none
  | some r =>
    cases r with
    | ret y => exact wr_ret
    | exc c fs => exact ⟨fun ⟨_, e, p⟩ => by cases e; exact p, fun p => ⟨_, rfl, p⟩⟩
def inRB (own : Bool) (o : Option (PV × RO)) (i : Nat) (S : Sto) (P : Kt PV) (E : Ke) : Prop := match o with
  | some (y, .ret z) => P z (S.set i (some (if own = true then .o y else .i y)))
  | some (y, .exc c fs) => E c fs (S.set i (some (if own = true then .o y else .i y)))
  | none => False
@[simp] theorem inRB_or {y z : PV} {i : Nat} {P : Kt PV} : inRB true (some (y, .ret z)) i S P E ↔ P z (S.set i (some (.o y))) := Iff.rfl
@[simp] theorem inRB_ir {y z : PV} {i : Nat} {P : Kt PV} : inRB false (some (y, .ret z)) i S P E ↔ P z (S.set i (some (.i y))) := Iff.rfl
@[simp] theorem inRB_oe {y : PV} {c : Nat} {fs : List (Str × PV)} {i : Nat} {P : Kt PV} : inRB true (some (y, .exc c fs)) i S P E ↔ E c fs (S.set i (some (.o y))) := Iff.rfl
@[simp] theorem inRB_ie {y : PV} {c : Nat} {fs : List (Str × PV)} {i : Nat} {P : Kt PV} : inRB false (some (y, .exc c fs)) i S P E ↔ E c fs (S.set i (some (.i y))) := Iff.rfl
def inRR (o : Option (Option SV)) (h : PV → Option (PV × RO)) (i : Nat) (S : Sto) (P : Kt PV) (E : Ke) : Prop := match o with
  | some (some (.o x)) => inRB true (h x) i S P E
  | some (some (.i x)) => inRB false (h x) i S P E
  | _ => False
@[simp] theorem inRR_o {x : PV} {h : PV → Option (PV × RO)} {i : Nat} {P : Kt PV} : inRR (some (some (.o x))) h i S P E ↔ inRB true (h x) i S P E := Iff.rfl
@[simp] theorem inRR_i {x : PV} {h : PV → Option (PV × RO)} {i : Nat} {P : Kt PV} : inRR (some (some (.i x))) h i S P E ↔ inRB false (h x) i S P E := Iff.rfl
theorem wr_mIn {i : Nat} {h : PV → Option (PV × RO)} {P : Kt PV} : wr (mIn i h) S P E ↔ inRR S[i]? h i S P E := by
  unfold mIn inRR
  constructor
  · rintro ⟨r, e, p⟩
    try dsimp only at e
    split at e
    · rename_i x hx
      split at e <;> (try (cases e; done)) <;> rename_i q <;> cases e <;> first | (simp only [hx] <;> rw [q] <;> exact p) | (rw [q]; exact p) | exact p | (simp only [hx]; exact p)
    · rename_i x hx
      split at e <;> (try (cases e; done)) <;> rename_i q <;> cases e <;> first | (simp only [hx] <;> rw [q] <;> exact p) | (rw [q]; exact p) | exact p | (simp only [hx]; exact p)
    · cases e
  · intro p
    unfold wr
    dsimp only
    split at p
    · rename_i x hx
      cases q : h x with
      | none => rw [q] at p; exact p.elim
      | some z =>
        obtain ⟨y, ro⟩ := z
        rw [q] at p
        cases ro with
        | ret z => exact ⟨.ok z (S.set i (some (.o y))), by simp only [hx, q], p⟩
        | exc c fs => exact ⟨.ex c fs (S.set i (some (.o y))), by simp only [hx, q], p⟩
    · rename_i x hx
      cases q : h x with
      | none => rw [q] at p; exact p.elim
      | some z =>
        obtain ⟨y, ro⟩ := z
        rw [q] at p
        cases ro with
        | ret z => exact ⟨.ok z (S.set i (some (.i y))), by simp only [hx, q], p⟩
        | exc c fs => exact ⟨.ex c fs (S.set i (some (.i y))), by simp only [hx, q], p⟩
    · exact p.elim
variable {a : Option SV}
@[simp] theorem r_ret {x : α} {P : Kt α} : wr (ret x) (a :: S) P E ↔ P x (a :: S) := wr_ret
@[simp] theorem r_bnd {m : M α} {k : α → M β} {P : Kt β} : wr (bnd m k) (a :: S) P E ↔ wr m (a :: S) (fun x S1 => wr (k x) S1 P E) E := wr_bnd
@[simp] theorem r_lift {o : Option α} {P : Kt α} : wr (lift o) (a :: S) P E ↔ exS o (a :: S) P := wr_lift
@[simp] theorem r_mNx {P : Kt Fl} : wr mNx (a :: S) P E ↔ P .nx (a :: S) := wr_ret
@[simp] theorem r_mRet {m : M PV} {P : Kt Fl} : wr (mRet m) (a :: S) P E ↔ wr m (a :: S) (fun x S1 => P (.rt x) S1) E := by
  unfold mRet
  simp only [wr_bnd, wr_ret]
@[simp] theorem r_mDrop {m : M PV} {P : Kt Fl} : wr (mDrop m) (a :: S) P E ↔ wr m (a :: S) (fun x S1 => P .nx S1) E := by
  unfold mDrop
  simp only [wr_bnd, wr_ret]
theorem wr_mSeq {m u : M Fl} {P : Kt Fl} : wr (mSeq m u) S P E ↔ wr m S (aftR u P E) E := by
  unfold mSeq
  rw [wr_bnd]
  constructor
  · refine fun h => wr_mono h (fun x S1 p => ?_) fun _ _ _ z => z
    cases x <;> first | exact p | exact (wr_ret (P := P) (E := E)).mp p
  · refine fun h => wr_mono h (fun x S1 p => ?_) fun _ _ _ z => z
    cases x <;> first | exact p | exact (wr_ret (P := P) (E := E)).mpr p
@[simp] theorem r_mSeq {m u : M Fl} {P : Kt Fl} : wr (mSeq m u) (a :: S) P E ↔ wr m (a :: S) (aftR u P E) E := wr_mSeq
@[simp] theorem r_mIf {c : M Bool} {m n : M Fl} {P : Kt Fl} : wr (mIf c m n) (a :: S) P E ↔ wr c (a :: S) (fun b S1 => brR b m n S1 P E) E := by
  unfold mIf
  simp only [wr_bnd, brR_ite]
@[simp] theorem r_mIfE {c : M Bool} {m n : M PV} {P : Kt PV} : wr (mIfE c m n) (a :: S) P E ↔ wr c (a :: S) (fun b S1 => brR b m n S1 P E) E := by
  unfold mIfE
  simp only [wr_bnd, brR_ite]
@[simp] theorem r_mK {x : PV} {P : Kt PV} : wr (mK x) (a :: S) P E ↔ P x (a :: S) := wr_ret
@[simp] theorem r_mBin {g : PV → PV → Option PV} {ma mb : M PV} {P : Kt PV} : wr (mBin g ma mb) (a :: S) P E ↔ wr ma (a :: S) (fun x S1 => wr mb S1 (fun y S2 => exS (g x y) S2 P) E) E := by
  unfold mBin
  simp only [wr_bnd, wr_lift]
theorem wr_asB {x : PV} {P : Kt Bool} : wr (asB x) S P E ↔ blE x S P := by
  constructor
  · rintro ⟨r, e, p⟩
    cases x <;> simp only [asB] at e <;> first | (cases e; done) | skip
    cases e
    exact ⟨_, rfl, p⟩
  · rintro ⟨b, rfl, p⟩
    exact ⟨_, rfl, p⟩
@[simp] theorem r_mTest {m : M PV} {P : Kt Bool} : wr (mTest m) (a :: S) P E ↔ wr m (a :: S) (fun x S1 => blE x S1 P) E := by
  unfold mTest
  simp only [wr_bnd, wr_asB]
@[simp] theorem r_mTru {m : M PV} {P : Kt Bool} : wr (mTru m) (a :: S) P E ↔ wr m (a :: S) (fun x S1 => exS (truP x) S1 P) E := by
  unfold mTru
  simp only [wr_bnd, wr_lift]
@[simp] theorem r_mNot {m : M Bool} {P : Kt Bool} : wr (mNot m) (a :: S) P E ↔ wr m (a :: S) (fun x S1 => P (!x) S1) E := by
  unfold mNot
  simp only [wr_bnd, wr_ret]
@[simp] theorem r_mB {m : M Bool} {P : Kt PV} : wr (mB m) (a :: S) P E ↔ wr m (a :: S) (fun x S1 => P (.bl x) S1) E := by
  unfold mB
  simp only [wr_bnd, wr_ret]
@[simp] theorem r_mAnd {m n : M Bool} {P : Kt Bool} : wr (mAnd m n) (a :: S) P E ↔ wr m (a :: S) (fun x S1 => brR x n (ret false) S1 P E) E := by
  unfold mAnd
  simp only [wr_bnd, brR_ite]
@[simp] theorem r_mOr {m n : M Bool} {P : Kt Bool} : wr (mOr m n) (a :: S) P E ↔ wr m (a :: S) (fun x S1 => brR x (ret true) n S1 P E) E := by
  unfold mOr
  simp only [wr_bnd, brR_ite]
@[simp] theorem r_mArgs_nil {P : Kt (List PV)} : wr (mArgs []) (a :: S) P E ↔ P [] (a :: S) := wr_ret
@[simp] theorem r_mArgs_cons {m : M PV} {ms : List (M PV)} {P : Kt (List PV)} : wr (mArgs (m :: ms)) (a :: S) P E ↔ wr m (a :: S) (fun x S1 => wr (mArgs ms) S1 (fun xs S2 => P (x :: xs) S2) E) E := by
  show wr (bnd m fun x => bnd (mArgs ms) fun xs => ret (x :: xs)) (a :: S) P E ↔ _
  simp only [wr_bnd, wr_ret]
@[simp] theorem r_mTup {ms : List (M PV)} {P : Kt PV} : wr (mTup ms) (a :: S) P E ↔ wr (mArgs ms) (a :: S) (fun xs S1 => P (.tup xs) S1) E := by
  unfold mTup
  simp only [wr_bnd, wr_ret]
@[simp] theorem r_mLst {ms : List (M PV)} {P : Kt PV} : wr (mLst ms) (a :: S) P E ↔ wr (mArgs ms) (a :: S) (fun xs S1 => P (.lst xs) S1) E := by
  unfold mLst
  simp only [wr_bnd, wr_ret]
@[simp] theorem r_mCB {g : List PV → Option PV} {ms : List (M PV)} {P : Kt PV} : wr (mCB g ms) (a :: S) P E ↔ wr (mArgs ms) (a :: S) (fun xs S1 => exS (g xs) S1 P) E := by
  unfold mCB
  simp only [wr_bnd, wr_lift]
@[simp] theorem r_mUn {g : PV → Option PV} {m : M PV} {P : Kt PV} : wr (mUn g m) (a :: S) P E ↔ wr m (a :: S) (fun x S1 => exS (g x) S1 P) E := by
  unfold mUn
  simp only [wr_bnd, wr_lift]
@[simp] theorem r_mIsa {ans : PV → Option Bool} {m : M PV} {P : Kt PV} : wr (mIsa ans m) (a :: S) P E ↔ wr m (a :: S) (fun x S1 => exS (ans x) S1 fun b S2 => P (.bl b) S2) E := by
  have k : ∀ (x : PV) (S1 : Sto), exS ((ans x).map PV.bl) S1 P ↔ exS (ans x) S1 fun b S2 => P (.bl b) S2 := fun x S1 => by
    cases ans x <;> simp
  unfold mIsa
  simp only [wr_bnd, wr_lift, k]
@[simp] theorem r_mIsN {n : Bool} {m : M PV} {P : Kt PV} : wr (mIsN n m) (a :: S) P E ↔ wr m (a :: S) (fun x S1 => P (isN n x) S1) E := by
  unfold mIsN
  rw [wr_bnd]
  constructor
  · refine fun h => wr_mono h (fun x S1 p => ?_) fun _ _ _ z => z
    have q := wr_ret.mp p
    cases x <;> exact q
  · refine fun h => wr_mono h (fun x S1 p => ?_) fun _ _ _ z => z
    refine wr_ret.mpr ?_
    cases x <;> exact p
@[simp] theorem r_mCall {f : List PV → Option RO} {ms : List (M PV)} {P : Kt PV} : wr (mCall f ms) (a :: S) P E ↔ wr (mArgs ms) (a :: S) (fun xs S1 => exRR (f xs) S1 P E) E := by
  unfold mCall
  simp only [wr_bnd, wr_roM]
@[simp] theorem r_mVar {i : Nat} {P : Kt PV} : wr (mVar i) (a :: S) P E ↔ rdV (a :: S)[i]? i (a :: S) P := (wr_leaf fun _ _ _ e => by unfold mVar at e; split at e <;> cases e).trans e_mVar
@[simp] theorem r_put {i : Nat} {x : PV} {P : Kt Unit} : wr (put i x) (a :: S) P E ↔ gdS (okPut (a :: S)[i]?) (a :: S) fun S1 => P () (S1.set i (some (.p x))) := (wr_leaf fun _ _ _ e => by unfold put at e; split at e <;> cases e).trans e_put
@[simp] theorem r_putO {i : Nat} {x : PV} {P : Kt Unit} : wr (putO i x) (a :: S) P E ↔ gdS (okPut (a :: S)[i]?) (a :: S) fun S1 => P () (S1.set i (some (.o x))) := (wr_leaf fun _ _ _ e => by unfold putO at e; split at e <;> cases e).trans e_putO
@[simp] theorem r_mSet {i : Nat} {m : M PV} {P : Kt Fl} : wr (mSet i m) (a :: S) P E ↔ wr m (a :: S) (fun x S1 => wr (put i x) S1 (fun _ S2 => P .nx S2) E) E := by
  unfold mSet
  simp only [wr_bnd, wr_ret]
@[simp] theorem r_mSetO {i : Nat} {m : M PV} {P : Kt Fl} : wr (mSetO i m) (a :: S) P E ↔ wr m (a :: S) (fun x S1 => wr (putO i x) S1 (fun _ S2 => P .nx S2) E) E := by
  unfold mSetO
  simp only [wr_bnd, wr_ret]
@[simp] theorem r_mDct {P : Kt PV} : wr mDct (a :: S) P E ↔ P (.dct []) (a :: S) := wr_ret
theorem opk_nx {i : Nat} {f : PV → Option PV} : ∀ c fs S', opk i f S ≠ some (.ex c fs S') := fun c fs S' e => by
  obtain ⟨x, z, _, _, _, q⟩ := opk_some e
  cases q
@[simp] theorem r_opk {i : Nat} {f : PV → Option PV} {P : Kt PV} : wr (opk i f) (a :: S) P E ↔ exS (pk i (a :: S)) (a :: S) fun x S1 => exS (f x) S1 fun z S2 => gdS z.atom S2 fun S3 => P z S3 := (wr_leaf opk_nx).trans e_opk
@[simp] theorem r_mCBV {g : List PV → Option PV} {i : Nat} {P : Kt PV} : wr (mCBV g i) (a :: S) P E ↔ exS (pk i (a :: S)) (a :: S) fun x S1 => exS (g [x]) S1 fun z S2 => gdS z.atom S2 fun S3 => P z S3 := (wr_leaf opk_nx).trans e_mCBV
theorem wr_guardPk {i : Nat} {m : M α} {P : Kt α} : wr (guardPk i m) S P E ↔ exS (pk i S) S fun _ S1 => wr m S1 P E := by
  unfold guardPk
  constructor
  · rintro ⟨r, e, p⟩
    try dsimp only at e
    split at e
    · rename_i x h
      exact ⟨x, h, r, e, p⟩
    · cases e
  · rintro ⟨x, h, r, e, p⟩
    refine ⟨r, ?_, p⟩
    dsimp only
    rw [h]
    exact e
@[simp] theorem r_guardPk {i : Nat} {m : M α} {P : Kt α} : wr (guardPk i m) (a :: S) P E ↔ exS (pk i (a :: S)) (a :: S) fun _ S1 => wr m S1 P E := wr_guardPk
@[simp] theorem r_mBinL {g : PV → PV → Option PV} {i : Nat} {mb : M PV} {P : Kt PV} : wr (mBinL g i mb) (a :: S) P E ↔ wr (guardPk i (bnd mb fun y => opk i fun x => g x y)) (a :: S) P E := Iff.rfl
@[simp] theorem r_mBinR {g : PV → PV → Option PV} {i : Nat} {ma : M PV} {P : Kt PV} : wr (mBinR g ma i) (a :: S) P E ↔ wr ma (a :: S) (fun x S1 => wr (opk i fun y => g x y) S1 P E) E := wr_bnd
@[simp] theorem r_mIxV {i : Nat} {mk : M PV} {P : Kt PV} : wr (mIxV i mk) (a :: S) P E ↔ exS (pk i (a :: S)) (a :: S) fun _ S0 => wr mk S0 (fun y S1 => exS (pk i S1) S1 fun x S2 => exS (pIx x y) S2 P) E := by
  unfold mIxV
  rw [r_guardPk]
  have k : ∀ (y : PV) (S1 : Sto), wr (fun S => match pk i S with | some x => (match pIx x y with | some z => some (.ok z S) | none => none) | none => none : M PV) S1 P E ↔ exS (pk i S1) S1 fun x S2 => exS (pIx x y) S2 P := fun y S1 => by
    constructor
    · rintro ⟨r, e, p⟩
      try dsimp only at e
      cases h1 : pk i S1 with
      | none => rw [h1] at e; cases e
      | some x =>
        rw [h1] at e
        try dsimp only at e
        cases h2 : pIx x y with
        | none => rw [h2] at e; cases e
        | some z =>
          rw [h2] at e
          cases e
          exact ⟨x, rfl, z, h2, p⟩
    · rintro ⟨x, h1, z, h2, p⟩
      refine ⟨.ok z S1, ?_, p⟩
      dsimp only
      rw [h1]
      dsimp only
      rw [h2]
  simp only [wr_bnd]
  constructor
  · rintro ⟨x, h, q⟩
    exact ⟨x, h, wr_mono q (fun y S1 p => (k y S1).mp p) fun _ _ _ z => z⟩
  · rintro ⟨x, h, q⟩
    exact ⟨x, h, wr_mono q (fun y S1 p => (k y S1).mpr p) fun _ _ _ z => z⟩
@[simp] theorem r_mFldV {i c : Nat} {f : Str} {P : Kt PV} : wr (mFldV i c f) (a :: S) P E ↔ exS (pk i (a :: S)) (a :: S) fun x S1 => exS (pFld c f x) S1 P := (wr_leaf fun _ _ _ e => by
  unfold mFldV at e
  try dsimp only at e
  split at e
  · split at e <;> cases e
  · cases e).trans e_mFldV
@[simp] theorem r_mTruV {i : Nat} {P : Kt Bool} : wr (mTruV i) (a :: S) P E ↔ exS (pk i (a :: S)) (a :: S) fun x S1 => exS (truP x) S1 P := (wr_leaf fun _ _ _ e => by
  unfold mTruV at e
  try dsimp only at e
  split at e
  · split at e <;> cases e
  · cases e).trans e_mTruV
@[simp] theorem r_updO {i : Nat} {f : PV → Option PV} {P : Kt Unit} : wr (updO i f) (a :: S) P E ↔ upO (a :: S)[i]? f id i (a :: S) (fun _ => P ()) := (wr_leaf fun _ _ _ e => by
  unfold updO at e
  try dsimp only at e
  split at e <;> (try (cases e; done)) <;> split at e <;> cases e).trans e_updO
@[simp] theorem r_updR {i : Nat} {f : PV → Option (PV × PV)} {P : Kt PV} : wr (updR i f) (a :: S) P E ↔ upO (a :: S)[i]? f Prod.fst i (a :: S) (fun y => P y.2) := (wr_leaf fun _ _ _ e => by
  unfold updR at e
  try dsimp only at e
  split at e <;> (try (cases e; done)) <;> split at e <;> cases e).trans e_updR
theorem wr_gd {c : Bool} {m : M α} {P : Kt α} : wr (fun S => if c = true then m S else none : M α) S P E ↔ c = true ∧ wr m S P E := by
  cases c
  · exact ⟨fun ⟨_, e, _⟩ => (by cases e), fun h => (by cases h.1)⟩
  · exact ⟨fun ⟨r, e, p⟩ => ⟨rfl, r, e, p⟩, fun ⟨_, r, e, p⟩ => ⟨r, e, p⟩⟩
@[simp] theorem r_mMt {T : String} {i : Nat} {f : PV → List PV → Option (PV × PV)} {ms : List (M PV)} {P : Kt PV} : wr (mMt T i f ms) (a :: S) P E ↔ gdS (isOT T i (a :: S)) (a :: S) fun S0 => wr (mArgs ms) S0 (fun xs S1 => wr (updR i fun x => f x xs) S1 P E) E := by
  show (∃ r, (if isOT T i (a :: S) = true then bnd (mArgs ms) (fun xs => updR i fun x => f x xs) (a :: S) else none) = some r ∧ _) ↔ _
  rw [gdS_eq, ← wr_bnd]
  by_cases h : isOT T i (a :: S) = true
  · rw [if_pos h]
    exact ⟨fun q => ⟨h, q⟩, fun q => q.2⟩
  · rw [if_neg h]
    exact ⟨fun ⟨_, e, _⟩ => (by cases e), fun q => absurd q.1 h⟩
@[simp] theorem r_mApp {i : Nat} {m : M PV} {P : Kt Fl} : wr (mApp i m) (a :: S) P E ↔ gdS (isOT "list" i (a :: S)) (a :: S) fun S0 => wr m S0 (fun x S1 => wr (updR i fun l => fApp l [x]) S1 (fun _ S2 => P .nx S2) E) E := by
  unfold mApp
  rw [r_mDrop, r_mMt]
  have k : ∀ S0 : Sto, wr (mArgs [m]) S0 (fun xs S1 => wr (updR i fun x => fApp x xs) S1 (fun _ S1 => P .nx S1) E) E ↔ wr m S0 (fun x S1 => wr (updR i fun l => fApp l [x]) S1 (fun _ S2 => P .nx S2) E) E := fun S0 => by
    show wr (bnd m fun x => bnd (ret []) fun xs => ret (x :: xs)) S0 _ E ↔ _
    simp only [wr_bnd, wr_ret]
  simp only [gdS_eq, k]
@[simp] theorem r_mCallI {i : Nat} {f : PV → List PV → Option (PV × RO)} {ms : List (M PV)} {P : Kt PV} : wr (mCallI i f ms) (a :: S) P E ↔ gdS (isO i (a :: S)) (a :: S) fun S0 => wr (mArgs ms) S0 (fun xs S1 => inRR S1[i]? (fun x => f x xs) i S1 P E) E := by
  show (∃ r, (if isO i (a :: S) then bnd (mArgs ms) (fun xs => mIn i fun x => f x xs) (a :: S) else none) = some r ∧ _) ↔ _
  have k : wr (bnd (mArgs ms) (fun xs => mIn i fun x => f x xs)) (a :: S) P E ↔ wr (mArgs ms) (a :: S) (fun xs S1 => inRR S1[i]? (fun x => f x xs) i S1 P E) E := by
    rw [wr_bnd]
    simp only [wr_mIn]
  rw [gdS_eq, ← k]
  by_cases h : isO i (a :: S) = true
  · rw [if_pos h]
    exact ⟨fun q => ⟨h, q⟩, fun q => q.2⟩
  · rw [if_neg h]
    exact ⟨fun ⟨_, e, _⟩ => (by cases e), fun q => absurd q.1 h⟩
@[simp] theorem r_mMethI {i c : Nat} {m : Str} {f : PV → List PV → Option (PV × RO)} {ms : List (M PV)} {P : Kt PV} : wr (mMethI i c m f ms) (a :: S) P E ↔ gdS (isMO c m (a :: S)[i]?) (a :: S) fun S0 => wr (mArgs ms) S0 (fun xs S1 => inRR S1[i]? (fun x => f x xs) i S1 P E) E := by
  show (∃ r, (if isM i c m (a :: S) = true then bnd (mArgs ms) (fun xs => mIn i fun x => f x xs) (a :: S) else none) = some r ∧ _) ↔ _
  have k : wr (bnd (mArgs ms) (fun xs => mIn i fun x => f x xs)) (a :: S) P E ↔ wr (mArgs ms) (a :: S) (fun xs S1 => inRR S1[i]? (fun x => f x xs) i S1 P E) E := by
    rw [wr_bnd]
    simp only [wr_mIn]
  rw [gdS_eq, ← k, ← isM_eq]
  by_cases h : isM i c m (a :: S) = true
  · rw [if_pos h]
    exact ⟨fun q => ⟨h, q⟩, fun q => q.2⟩
  · rw [if_neg h]
    exact ⟨fun ⟨_, e, _⟩ => (by cases e), fun q => absurd q.1 h⟩
theorem wr_raise {c : Nat} {fs : List (Str × PV)} {P : Kt α} : wr (fun S => some (.ex c fs S) : M α) S P E ↔ E c fs S := ⟨fun ⟨_, e, p⟩ => by cases e; exact p, fun p => ⟨_, rfl, p⟩⟩
@[simp] theorem r_mRaise {c : Nat} {fl : List (Str × Nat)} {ms : List (M PV)} {P : Kt Fl} : wr (mRaise c fl ms) (a :: S) P E ↔ wr (mArgs ms) (a :: S) (fun xs S1 => E c (fldsP fl xs) S1) E := by
  unfold mRaise
  simp only [wr_bnd, wr_raise]
@[simp] theorem r_mIncF {i c : Nat} {f : Str} {n : Int} {P : Kt Fl} : wr (mIncF i c f n) (a :: S) P E ↔ wr (updO i (pIncF c f n)) (a :: S) (fun _ S1 => P .nx S1) E := by
  unfold mIncF
  simp only [wr_bnd, wr_ret]
@[simp] theorem r_mSetF {i c : Nat} {f : Str} {me : M PV} {P : Kt Fl} : wr (mSetF i c f me) (a :: S) P E ↔ wr me (a :: S) (fun v S1 => wr (updO i (pSetF c f v)) S1 (fun _ S2 => P .nx S2) E) E := by
  unfold mSetF
  simp only [wr_bnd, wr_ret]
@[simp] theorem r_mBinS {g : PV → PV → Option PV} {mo me : M PV} {P : Kt PV} : wr (mBinS g mo me) (a :: S) P E ↔ wr mo (a :: S) (fun x S1 => gdS (isStr x) S1 fun S2 => wr me S2 (fun y S3 => exS (g x y) S3 P) E) E := by
  have k : ∀ (x : PV) (S1 : Sto), wr (if isStr x = true then bnd me fun y => lift (g x y) else fun _ => none) S1 P E ↔ gdS (isStr x) S1 fun S2 => wr me S2 (fun y S3 => exS (g x y) S3 P) E := fun x S1 => by
    rw [gdS_eq]
    cases isStr x
    · simp
    · simp [wr_bnd, wr_lift]
  unfold mBinS
  simp only [wr_bnd, k]
@[simp] theorem r_mAsg {m : M PV} {g : PV → Sto → Option Sto} {P : Kt Fl} : wr (mAsg m g) (a :: S) P E ↔ wr m (a :: S) (fun x S1 => ∃ S2, g x S1 = some S2 ∧ P .nx S2) E := by
  have k : ∀ (x : PV) (S1 : Sto), wr (fun S => match g x S with | some S2 => some (.ok .nx S2) | none => none : M Fl) S1 P E ↔ ∃ S2, g x S1 = some S2 ∧ P .nx S2 := fun x S1 => by
    constructor
    · rintro ⟨r, e, p⟩
      try dsimp only at e
      cases h : g x S1 with
      | none => rw [h] at e; cases e
      | some S2 => rw [h] at e; cases e; exact ⟨S2, rfl, p⟩
    · rintro ⟨S2, h, p⟩
      exact ⟨.ok .nx S2, by dsimp only; rw [h], p⟩
  unfold mAsg
  rw [wr_bnd]
  constructor
  · exact fun h => wr_mono h (fun x S1 p => (k x S1).mp p) fun _ _ _ z => z
  · exact fun h => wr_mono h (fun x S1 p => (k x S1).mpr p) fun _ _ _ z => z
@[simp] theorem r_mNoB {P : Kt (Option Int)} : wr (mNoB) (a :: S) P E ↔ P none (a :: S) := wr_ret
/-- a list's items, one after the other; the exception may come at one of them -/
theorem wr_loop {g : PV → Sto → Option Sto} {m : M Fl} {P : Kt Fl} (I : List PV → Sto → Prop) (h0 : ∀ S, I [] S → P .nx S)
    (h1 : ∀ y ys S, I (y :: ys) S → ∃ S1, g y S = some S1 ∧ wr m S1 (fun f S2 => (f = .nx ∧ I ys S2) ∨ (∃ v, f = .rt v ∧ P (.rt v) S2)) E) : ∀ {ys : List PV} {S : Sto}, I ys S → wr (loop g m ys) S P E
  | [], S, h => wr_ret.mpr (h0 S h)
  | y :: ys, S, h => by
    obtain ⟨S1, e1, r, e2, q⟩ := h1 y ys S h
    have step : loop g m (y :: ys) S = match m S1 with
      | none => none
      | some (.ok .nx S2) => loop g m ys S2
      | some (.ok .ct S2) => loop g m ys S2
      | some (.ok .bk S2) => some (.ok .nx S2)
      | some r => some r := by
      show (match g y S with | none => none | some S1 => _) = _
      rw [e1]
      all_goals rfl
    cases r with
    | ex c fs S2 => exact ⟨.ex c fs S2, by rw [step, e2], q⟩
    | ok f S2 =>
      rcases q with ⟨rfl, q⟩ | ⟨v, rfl, q⟩
      · obtain ⟨r, e, p⟩ := wr_loop I h0 h1 (ys := ys) (S := S2) q
        exact ⟨r, by rw [step, e2]; exact e, p⟩
      · exact ⟨.ok (.rt v) S2, by rw [step, e2], q⟩
theorem wr_for {mi : M (List PV)} {g : PV → Sto → Option Sto} {m : M Fl} {P : Kt Fl} (h : wq mi S fun ys S1 => wr (loop g m ys) S1 P E) : wr (mFor mi g m) S P E := by
  obtain ⟨ys, S1, e, p⟩ := h
  unfold wr mFor
  rw [e]
  exact p
/-- a while: I holds at its head, each turn comes nearer to the end -/
theorem wr_while {c : M Bool} {m : M Fl} {P : Kt Fl} (I : Nat → Sto → Prop)
    (h : ∀ n S, I n S → wr c S (fun b S1 => (b = false ∧ P .nx S1) ∨ (b = true ∧ wr m S1 (fun f S2 => (f = .nx ∧ ∃ n', n' < n ∧ I n' S2) ∨ ∃ v, f = .rt v ∧ P (.rt v) S2) E)) E) : ∀ (k n : Nat) (S : Sto), I n S → n < k → wr (whileM c m k) S P E
  | 0, n, S, hi, hk => absurd hk (Nat.not_lt_zero _)
  | k + 1, n, S, hi, hk => by
    obtain ⟨r, e, q⟩ := h n S hi
    cases r with
    | ex c fs S1 => exact ⟨.ex c fs S1, by unfold whileM; rw [e], q⟩
    | ok b S1 =>
      rcases q with ⟨rfl, q⟩ | ⟨rfl, q⟩
      · exact ⟨.ok .nx S1, by unfold whileM; rw [e], q⟩
      · obtain ⟨r2, e2, q2⟩ := q
        cases r2 with
        | ex c fs S2 => exact ⟨.ex c fs S2, by unfold whileM; rw [e]; dsimp only; rw [e2], q2⟩
        | ok f S2 =>
          rcases q2 with ⟨rfl, n', hn, q2⟩ | ⟨v, rfl, q2⟩
          · obtain ⟨r3, e3, p3⟩ := wr_while I h k n' S2 q2 (by omega)
            exact ⟨r3, by unfold whileM; rw [e]; dsimp only; rw [e2]; exact e3, p3⟩
          · exact ⟨.ok (.rt v) S2, by unfold whileM; rw [e]; dsimp only; rw [e2], q2⟩
end
/-- a def's end -/
def flO : Fl → Option RO
  | .nx => some (.ret .non)
  | .rt y => some (.ret y)
  | _ => none
theorem runP_wr {N : Nat} {m : M Fl} {xs : List PV} {r : RO} (h : wr m (stoP N xs) (fun f _ => flO f = some r) fun c fs _ => r = .exc c fs) : runP N m xs = some r := by
  obtain ⟨z, e, p⟩ := h
  unfold runP
  rw [e]
  cases z with
  | ok f S => cases f <;> first | exact p | cases p
  | ex c fs S =>
    have p : r = .exc c fs := p
    rw [p]
    rfl
theorem runI_wr {N : Nat} {m : M Fl} {x x' : PV} {xs : List PV} {r : RO} (h : wr m (some (.i x) :: stoP (N - 1) xs) (fun f S => flO f = some r ∧ S.head? = some (some (.i x'))) fun c fs S => r = .exc c fs ∧ S.head? = some (some (.i x'))) : runI N m x xs = some (x', r) := by
  obtain ⟨z, e, p⟩ := h
  unfold runI
  rw [e]
  cases z with
  | ok f S =>
    obtain ⟨p1, p2⟩ := (show flO f = some r ∧ S.head? = some (some (.i x')) from p)
    cases S with
    | nil => cases p2
    | cons s S =>
      cases p2
      cases f <;> first | (cases p1; rfl) | cases p1
  | ex c fs S =>
    obtain ⟨p1, p2⟩ := (show r = .exc c fs ∧ S.head? = some (some (.i x')) from p)
    cases S with
    | nil => cases p2
    | cons s S =>
      cases p2
      rw [p1]
      rfl
end Kp
set_option Elab.async false
set_option linter.all false
set_option maxRecDepth 100000
set_option maxHeartbeats 4000000
namespace Kp
open PySem L2
/-! ### texts cut at a sign -/
def cutAt (c : Nat) : List Nat → List (List Nat)
  | [] => [[]]
  | d :: r => if d = c then [] :: cutAt c r else (d :: (cutAt c r).headD []) :: (cutAt c r).tail
theorem cutAt_ne (c : Nat) (l : List Nat) : cutAt c l ≠ [] := by
  cases l with
  | nil => simp [cutAt]
  | cons d r =>
    unfold cutAt
    split <;> simp
theorem cutAt_eta (c : Nat) (l : List Nat) : (cutAt c l).headD [] :: (cutAt c l).tail = cutAt c l := by
  cases h : cutAt c l with
  | nil => exact absurd h (cutAt_ne c l)
  | cons a r => rfl
theorem pre1 (c d : Nat) (r : List Nat) : TL.pre [c] (d :: r) = decide (d = c) := by
  unfold TL.pre
  simp only [List.length_singleton, List.take_succ_cons, List.take_zero]
  by_cases h : d = c
  · subst h; simp
  · simp [h]
theorem spl_cut (c : Nat) : ∀ (l acc : List Nat), TL.spl [c] 0 acc l = (acc ++ (cutAt c l).headD []) :: (cutAt c l).tail
  | [], acc => by simp [TL.spl_nil, cutAt]
  | d :: r, acc => by
    by_cases h : d = c
    · rw [TL.spl_hit (by rw [pre1, decide_eq_true h])]
      have e := spl_cut c r []
      rw [List.nil_append, cutAt_eta] at e
      show acc :: TL.spl [c] 0 [] r = _
      have k : cutAt c (d :: r) = [] :: cutAt c r := by
        conv => lhs; unfold cutAt
        rw [if_pos h]
      rw [e, k]
      simp
    · rw [TL.spl_miss (by rw [pre1, decide_eq_false h]), spl_cut c r (acc ++ [d])]
      conv => rhs; unfold cutAt
      rw [if_neg h]
      simp
theorem S_chr (c : Nat) : SX.S [c] = chr1 c := rfl
theorem split_chr {c : Nat} (hc : c < 256) (s : Str) : Txt.split s (chr1 c) = (cutAt c (tx s)).map SX.S := by
  have e := SX.split_S (a := tx s) (b := [c]) (by simp) (by simpa using hc)
  rw [tx_S, S_chr] at e
  rw [e, spl_cut, List.nil_append, cutAt_eta]
theorem cutAt_sum (c : Nat) : ∀ l : List Nat, ((cutAt c l).map (·.length)).sum + (cutAt c l).length = l.length + 1
  | [] => by simp [cutAt]
  | d :: r => by
    have ih := cutAt_sum c r
    unfold cutAt
    split
    · simp only [List.map_cons, List.sum_cons, List.length_cons, List.length_nil]
      omega
    · rw [← cutAt_eta c r] at ih
      simp only [List.map_cons, List.sum_cons, List.length_cons] at ih ⊢
      omega
theorem mem_le_sum : ∀ {l : List Nat} {n : Nat}, n ∈ l → n ≤ l.sum
  | m :: l, n, h => by
    rw [List.sum_cons]
    rcases List.mem_cons.mp h with e | h
    · omega
    · have := mem_le_sum h
      omega
theorem cutAt_len {c : Nat} {l p : List Nat} (h : p ∈ cutAt c l) : p.length ≤ l.length := by
  have h1 := cutAt_sum c l
  have h2 := mem_le_sum (List.mem_map.mpr ⟨p, h, rfl⟩ : p.length ∈ (cutAt c l).map (·.length))
  have h3 : 0 < (cutAt c l).length := List.length_pos_iff.mpr (cutAt_ne c l)
  omega
theorem cutAt_free (c : Nat) : ∀ {l p : List Nat}, p ∈ cutAt c l → c ∉ p
  | [], p, h => by
    simp [cutAt] at h
    simp [h]
  | d :: r, p, h => by
    have ih := @cutAt_free c r
    unfold cutAt at h
    split at h
    · rcases List.mem_cons.mp h with e | h
      · simp [e]
      · exact ih h
    · rename_i n
      rcases List.mem_cons.mp h with e | h
      · have hh : (cutAt c r).headD [] ∈ cutAt c r := by
          rw [← cutAt_eta c r]
          simp
        rw [e]
        intro q
        rcases List.mem_cons.mp q with q | q
        · exact n q.symm
        · exact ih hh q
      · exact ih (List.mem_of_mem_tail h)
theorem cutAt_none {c : Nat} : ∀ {l : List Nat}, c ∉ l → cutAt c l = [l]
  | [], _ => rfl
  | d :: r, h => by
    have h1 : d ≠ c := fun e => h (by simp [e])
    have h2 : c ∉ r := fun e => h (by simp [e])
    unfold cutAt
    rw [if_neg h1, cutAt_none h2]
    rfl
theorem cutAt_some {c : Nat} {q : List Nat} : ∀ {p : List Nat}, c ∉ p → cutAt c (p ++ c :: q) = p :: cutAt c q
  | [], _ => by
    show cutAt c (c :: q) = _
    conv => lhs; unfold cutAt
    rw [if_pos rfl]
  | d :: r, h => by
    have h1 : d ≠ c := fun e => h (by simp [e])
    have h2 : c ∉ r := fun e => h (by simp [e])
    show cutAt c (d :: (r ++ c :: q)) = _
    conv => lhs; unfold cutAt
    rw [if_neg h1, cutAt_some h2]
    rfl
theorem first_at {c : Nat} : ∀ {l : List Nat}, c ∈ l → ∃ p q, l = p ++ c :: q ∧ c ∉ p
  | d :: r, h => by
    by_cases e : d = c
    · exact ⟨[], r, by simp [e], by simp⟩
    · have h2 : c ∈ r := by
        rcases List.mem_cons.mp h with q | q
        · exact absurd q.symm e
        · exact q
      obtain ⟨p, q, e1, e2⟩ := first_at h2
      refine ⟨d :: p, q, by rw [e1]; rfl, fun z => ?_⟩
      rcases List.mem_cons.mp z with z | z
      · exact e z.symm
      · exact e2 z
theorem joinL_cut (c : Nat) : ∀ l : List Nat, TL.joinL [c] (cutAt c l) = l
  | [] => by simp [cutAt, TL.joinL]
  | d :: r => by
    have ih := joinL_cut c r
    unfold cutAt
    split
    · rename_i e
      cases h : cutAt c r with
      | nil => exact absurd h (cutAt_ne c r)
      | cons p ps =>
        rw [h] at ih
        show [] ++ ([c] ++ TL.joinL [c] (p :: ps)) = _
        rw [ih, e]
        rfl
    · cases h : cutAt c r with
      | nil => exact absurd h (cutAt_ne c r)
      | cons p ps =>
        rw [h] at ih
        simp only [List.headD_cons, List.tail_cons]
        cases ps with
        | nil =>
          simp only [TL.joinL] at ih ⊢
          rw [ih]
        | cons p2 ps =>
          have e : TL.joinL [c] (p :: p2 :: ps) = p ++ ([c] ++ TL.joinL [c] (p2 :: ps)) := rfl
          rw [e] at ih
          show (d :: p) ++ ([c] ++ TL.joinL [c] (p2 :: ps)) = _
          rw [List.cons_append, ih]
theorem sp_chr : (" " : Str) = chr1 32 := by decide +kernel
theorem co_chr : (":" : Str) = chr1 58 := by decide +kernel
/-- the words of a line -/
def sx (s : Str) : List Str := (cutAt 32 (tx s)).map SX.S
def cx (s : Str) : List Str := (cutAt 58 (tx s)).map SX.S
theorem tx_of_S (l : List Nat) : tx (SX.S l) = l := rfl
theorem sx_ne (s : Str) : sx s ≠ [] := by simpa [sx] using cutAt_ne 32 (tx s)
theorem sx_mem {s w : Str} (h : w ∈ sx s) : w.length ≤ s.length := by
  obtain ⟨p, hp, rfl⟩ := List.mem_map.mp h
  exact cutAt_len hp
theorem cx_mem {s w : Str} (h : w ∈ cx s) : w.length ≤ s.length := by
  obtain ⟨p, hp, rfl⟩ := List.mem_map.mp h
  exact cutAt_len hp
def tot (ws : List Str) : Nat := (ws.map (·.length)).sum + ws.length
theorem sx_tot (s : Str) : tot (sx s) = s.length + 1 := by
  have h := cutAt_sum 32 (tx s)
  unfold tot sx
  rw [List.map_map, List.length_map]
  exact h
theorem sx_len (s : Str) : (sx s).length ≤ s.length + 1 := by
  have := sx_tot s
  unfold tot at this
  omega
theorem cx_len (s : Str) : (cx s).length ≤ s.length + 1 := by
  have h := cutAt_sum 58 (tx s)
  have e : (cx s).length = (cutAt 58 (tx s)).length := by unfold cx; rw [List.length_map]
  rw [e]
  have : (tx s).length = s.length := rfl
  omega
theorem pSplit_sx {s : Str} (h : s.length ≤ 100000) : pSplit (.str s) (.str " ") = some (.lst ((sx s).map .str)) := by
  have e : Txt.split s " " = sx s := by rw [sp_chr]; exact split_chr (by decide) s
  unfold pSplit
  dsimp only
  rw [e, szL, len_sp, if_pos]
  refine ⟨rfl, by omega, List.all_eq_true.mpr fun w hw => ?_⟩
  have := sx_mem hw
  exact decide_eq_true (by omega)
theorem len_co : Str.length (Str.ofString ":") = 1 := by decide +kernel
theorem pSplit_cx {s : Str} (h : s.length ≤ 100000) : pSplit (.str s) (.str ":") = some (.lst ((cx s).map .str)) := by
  have e : Txt.split s ":" = cx s := by rw [co_chr]; exact split_chr (by decide) s
  unfold pSplit
  dsimp only
  rw [e, szL, len_co, if_pos]
  refine ⟨rfl, by omega, List.all_eq_true.mpr fun w hw => ?_⟩
  have := cx_mem hw
  exact decide_eq_true (by omega)
theorem joinL_lenx (c : Nat) : ∀ ps : List (List Nat), (TL.joinL [c] ps).length ≤ (ps.map (·.length)).sum + ps.length
  | [] => by simp [TL.joinL]
  | [p] => by simp [TL.joinL]
  | p :: q :: r => by
    have h2 := joinL_lenx c (q :: r)
    have e : TL.joinL [c] (p :: q :: r) = p ++ ([c] ++ TL.joinL [c] (q :: r)) := rfl
    rw [e]
    simp only [List.length_append, List.map_cons, List.sum_cons, List.length_cons, List.length_nil] at h2 ⊢
    omega
theorem ln_tot (ws : List Str) : (Ln ws).length ≤ tot ws := by
  rw [ln_S, SX.S_len]
  have h := joinL_lenx 32 (ws.map tx)
  unfold tot
  rw [List.map_map, List.length_map] at h
  exact h
theorem pJoin_lx {ws : List Str} (h : tot ws ≤ 100000) : pJoin (.str " ") (.lst (ws.map .str)) = some (.str (Ln ws)) := by
  have h3 := ln_tot ws
  unfold tot at h
  unfold pJoin
  dsimp only
  have e : (itemsP (.lst (ws.map PV.str))).bind strsP = some ws := strsP_map _
  rw [e]
  dsimp only
  have h3' : (Txt.join " " ws).length ≤ tot ws := h3
  unfold tot at h3'
  rw [szL, len_sp, if_pos]
  · rfl
  · omega
/-- cut again -/
theorem sx_ln {ws : List Str} (hn : ws ≠ []) (h : ∀ w ∈ ws, 32 ∉ tx w) : sx (Ln ws) = ws := by
  have e2 : (" " : Str) = SX.S [32] := by decide +kernel
  have k : Txt.split (Ln ws) " " = ws := by
    rw [ln_S, e2, SX.split_S (by decide) (by decide), SX.spl_join (by simp; exact hn) (fun p hp => by
      obtain ⟨w, hw, rfl⟩ := List.mem_map.mp hp
      exact h w hw), List.map_map]
    conv => rhs; rw [← List.map_id ws]
    exact List.map_congr_left fun w _ => tx_S w
  have e : Txt.split (Ln ws) " " = sx (Ln ws) := by rw [sp_chr]; exact split_chr (by decide) _
  rw [← e, k]
/-! a text parted at its first colon -/
theorem par_none' {c : Nat} : ∀ {l : List Nat}, c ∉ l → TL.par [c] [] l = none := fun h => TL.par_none1 h
theorem parts_n {s : Str} (h : 58 ∉ tx s) : Txt.partition s ":" = (s, ("" : Str), ("" : Str)) := by
  have e := SX.partition_none (a := tx s) (b := [58]) (by simp) (par_none' h)
  rw [tx_S, S_chr, ← co_chr] at e
  rw [e]
  have z : SX.S [] = ("" : Str) := by decide +kernel
  rw [z]
theorem parts_s {s : Str} {p q : List Nat} (e : tx s = p ++ 58 :: q) (h : 58 ∉ p) : Txt.partition s ":" = (SX.S p, (":" : Str), SX.S q) := by
  have e1 : TL.par [58] [] (tx s) = some (p, q) := by
    rw [e]
    exact TL.par_part1 (S := []) (acc := []) h
  have e2 := SX.partition_some (a := tx s) (b := [58]) (by simp) e1
  rw [tx_S, S_chr, ← co_chr] at e2
  exact e2
theorem pParts_n {s : Str} (hl : s.length ≤ 100000) (h : 58 ∉ tx s) : pParts (.str s) (.str ":") = some (.tup [.str s, .str "", .str ""]) := by
  unfold pParts
  dsimp only
  rw [parts_n h, szL, len_co]
  have z : Str.length (Str.ofString "") = 0 := by decide +kernel
  rw [if_pos]
  exact ⟨rfl, by omega, by show s.length ≤ _; omega, by show Str.length (Str.ofString "") ≤ _; omega, by show Str.length (Str.ofString "") ≤ _; omega⟩
theorem pParts_s {s : Str} {p q : List Nat} (hl : s.length ≤ 100000) (e : tx s = p ++ 58 :: q) (h : 58 ∉ p) : pParts (.str s) (.str ":") = some (.tup [.str (SX.S p), .str ":", .str (SX.S q)]) := by
  have hl2 : (tx s).length = s.length := rfl
  rw [e, List.length_append, List.length_cons] at hl2
  unfold pParts
  dsimp only
  rw [parts_s e h, szL, len_co, if_pos]
  refine ⟨rfl, by omega, ?_, ?_, ?_⟩
  · show (SX.S p).length ≤ _
    rw [SX.S_len]
    omega
  · show Str.length (Str.ofString ":") ≤ _
    rw [len_co]
    omega
  · show (SX.S q).length ≤ _
    rw [SX.S_len]
    omega
theorem cx_n {s : Str} (h : 58 ∉ tx s) : cx s = [s] := by
  unfold cx
  rw [cutAt_none h]
  simp [tx_S]
theorem cx_s {s : Str} {p q : List Nat} (e : tx s = p ++ 58 :: q) (h : 58 ∉ p) : cx s = SX.S p :: (cutAt 58 q).map SX.S := by
  unfold cx
  rw [e, cutAt_some h]
  rfl
end Kp
set_option Elab.async false
set_option linter.all false
set_option maxRecDepth 100000
set_option maxHeartbeats 4000000
namespace Kp
open PySem L2
/-! ### a comprehension whose item may raise -/
abbrev Ex1 := PV ⊕ (Nat × List (Str × PV))
def mapX : List Ex1 → List PV ⊕ (Nat × List (Str × PV))
  | [] => .inl []
  | .inr e :: _ => .inr e
  | .inl z :: r => match mapX r with
    | .inl zs => .inl (z :: zs)
    | .inr e => .inr e
def lcXE (o : Option LcR) (P : Kt (List PV)) (E : Ke) : Prop := match o with
  | some (.ok zs S) => P zs S
  | some (.ex c fs S) => E c fs S
  | none => False
theorem wr_mLcX {vs : List Nat} {mi : M (List PV)} {g : PV → Sto → Option Sto} {mt : M Bool} {me : M PV} {S : Sto} {P : Kt PV} {E : Ke} (h : wq mi S fun ys S1 => ys.length ≤ sizeLine ∧ plainAt S1 vs = true ∧ lcXE (lcGoX vs g mt me ys (wipeS S1 vs)) (fun zs S2 => P (.lst zs) (backS S1 S2 vs)) fun c fs S2 => E c fs (backS S1 (wipeS S2 vs) vs)) : wr (mLcX vs mi g mt me) S P E := by
  obtain ⟨ys, S1, e, h1, h2, q⟩ := h
  unfold wr mLcX
  rw [e]
  dsimp only
  rw [if_pos ⟨h1, h2⟩]
  cases z : lcGoX vs g mt me ys (wipeS S1 vs) with
  | none => rw [z] at q; exact q.elim
  | some R =>
    rw [z] at q
    cases R with
    | ok zs S2 => exact ⟨_, rfl, q⟩
    | ex c fs S2 => exact ⟨_, rfl, q⟩
theorem lcGoX_map {β : Type} {vs : List Nat} {g : PV → Sto → Option Sto} {me : M PV} {S : Sto} (φ : β → PV) (f : β → Ex1) : ∀ {xs : List β},
    (∀ b ∈ xs, ∃ S1, g (φ b) S = some S1 ∧ wr me S1 (fun z S3 => f b = .inl z ∧ wipeS S3 vs = S) fun c fs S3 => f b = .inr (c, fs) ∧ wipeS S3 vs = S) →
    ∃ R, lcGoX vs g mYes me (xs.map φ) S = some R ∧ match mapX (xs.map f) with
      | .inl zs => R = .ok zs S
      | .inr e => ∃ S2, R = .ex e.1 e.2 S2 ∧ wipeS S2 vs = S
  | [], _ => ⟨_, rfl, rfl⟩
  | b :: xs, h => by
    obtain ⟨S1, e1, r, e2, q⟩ := h b List.mem_cons_self
    obtain ⟨R, e3, q3⟩ := lcGoX_map φ f fun b hb => h b (List.mem_cons_of_mem _ hb)
    rw [List.map_cons, List.map_cons]
    unfold lcGoX
    rw [e1]
    dsimp only
    rw [show mYes S1 = some (.ok true S1) from rfl]
    dsimp only
    rw [e2]
    cases r with
    | ok z S3 =>
      obtain ⟨q1, q2⟩ := (show f b = .inl z ∧ wipeS S3 vs = S from q)
      dsimp only
      rw [q2, e3, q1]
      unfold mapX
      cases hm : mapX (xs.map f) with
      | inl zs =>
        rw [hm] at q3
        subst q3
        exact ⟨_, rfl, rfl⟩
      | inr e =>
        rw [hm] at q3
        obtain ⟨S2, rfl, q4⟩ := q3
        exact ⟨_, rfl, S2, rfl, q4⟩
    | ex c fs S3 =>
      obtain ⟨q1, q2⟩ := (show f b = .inr (c, fs) ∧ wipeS S3 vs = S from q)
      dsimp only
      rw [q1]
      exact ⟨_, rfl, S3, rfl, q2⟩
/-- with the answer alone -/
theorem lcXE_map {β : Type} {vs : List Nat} {g : PV → Sto → Option Sto} {me : M PV} {S : Sto} {P : Kt (List PV)} {E : Ke} (φ : β → PV) (f : β → Ex1) {xs : List β} {ys : List PV} (hy : ys = xs.map φ)
    (h : ∀ b ∈ xs, ∃ S1, g (φ b) S = some S1 ∧ wr me S1 (fun z S3 => f b = .inl z ∧ wipeS S3 vs = S) fun c fs S3 => f b = .inr (c, fs) ∧ wipeS S3 vs = S)
    (k1 : ∀ zs, mapX (xs.map f) = .inl zs → P zs S) (k2 : ∀ c fs S2, mapX (xs.map f) = .inr (c, fs) → wipeS S2 vs = S → E c fs S2) : lcXE (lcGoX vs g mYes me ys S) P E := by
  obtain ⟨R, e, q⟩ := lcGoX_map φ f h
  rw [hy, e]
  cases hm : mapX (xs.map f) with
  | inl zs =>
    rw [hm] at q
    subst q
    exact k1 zs hm
  | inr ef =>
    rw [hm] at q
    obtain ⟨S2, rfl, q2⟩ := q
    exact k2 ef.1 ef.2 S2 hm q2
/-- a fresh object handed in -/
theorem wr_mCallIF {S : Sto} {g : PV → List PV → Option (PV × RO)} {mf : M PV} {P : Kt PV} {E : Ke} (h : wq mf S fun x S1 => ∃ x' r, g x [] = some (x', r) ∧ exRR (some r) S1 P E) : wr (mCallIF g mf) S P E := by
  unfold mCallIF
  rw [wr_bnd]
  refine wr_wq (wq_mono h fun x S1 q => ?_)
  obtain ⟨x', r, e, q⟩ := q
  rw [e]
  cases r with
  | ret y => exact wr_ret.mpr q
  | exc c fs => exact ⟨_, rfl, q⟩
@[simp] theorem pParts_ss {a b : Str} : pParts (.str a) (.str b) = if (b.length == 0) = false ∧ a.length ≤ sizeLine ∧ (Txt.partition a b).1.length ≤ sizeLine ∧ (Txt.partition a b).2.1.length ≤ sizeLine ∧ (Txt.partition a b).2.2.length ≤ sizeLine then some (.tup [.str (Txt.partition a b).1, .str (Txt.partition a b).2.1, .str (Txt.partition a b).2.2]) else none := rfl
/-- a new object made -/
def mkR (o : Option (PV × RO)) (S : Sto) (P : Kt PV) (E : Ke) : Prop := match o with
  | some (x, .ret .non) => P x S
  | some (_, .exc c fs) => E c fs S
  | _ => False
@[simp] theorem mkR_some {x : PV} {S : Sto} {P : Kt PV} {E : Ke} : mkR (some (x, .ret .non)) S P E ↔ P x S := Iff.rfl
@[simp] theorem mkR_exc {x : PV} {c : Nat} {fs : List (Str × PV)} {S : Sto} {P : Kt PV} {E : Ke} : mkR (some (x, .exc c fs)) S P E ↔ E c fs S := Iff.rfl
theorem wr_mkM {h : PV → Option (PV × RO)} {c : Nat} {S : Sto} {P : Kt PV} {E : Ke} : wr (mkM h c) S P E ↔ mkR (h (.obj c [])) S P E := by
  unfold mkM mkR
  constructor
  · rintro ⟨r, e, p⟩
    dsimp only at e
    split at e <;> (try (cases e; done)) <;> rename_i q <;> cases e <;> first | (rw [q]; exact p) | exact p
  · intro p
    unfold wr
    dsimp only
    split at p <;> (try (exact p.elim)) <;> rename_i q <;> first | (rw [q]; exact ⟨_, rfl, p⟩) | exact ⟨_, rfl, p⟩
@[simp] theorem r_mMake {a : Option SV} {c : Nat} {f : PV → List PV → Option (PV × RO)} {ms : List (M PV)} {S : Sto} {P : Kt PV} {E : Ke} : wr (mMake c f ms) (a :: S) P E ↔ wr (mArgs ms) (a :: S) (fun xs S1 => mkR (f (.obj c []) xs) S1 P E) E := by
  unfold mMake
  simp only [wr_bnd, wr_mkM]
/-- try, both ways -/
theorem wq_tryR {cs : List Nat} {sub : Nat → Option Bool} {i : Nat} {mb : M Fl} {msu : Addr → Addr → Nat → M Fl} {S : Sto} {P : Kt Fl} (h : wr mb S P fun c fs S1 => c ∈ cs ∧ sub c = some true ∧ (∃ o, S1[i]? = some o ∧ ∀ x, o ≠ some (.i x)) ∧
    ∃ r S2, (∀ a d, wq (msu a d c) (S1.set i (some (.p (.xo a d c fs)))) fun f S3 => f = r ∧ S3.set i none = S2 ∧ ∀ x, S3[i]? ≠ some (some (.i x))) ∧ P r S2) : wq (mTry cs sub i mb msu) S P := by
  obtain ⟨r, e, q⟩ := h
  cases r with
  | ok f S' => exact ⟨f, S', by unfold mTry; rw [e], q⟩
  | ex c fs S1 =>
    obtain ⟨h1, h2, h3, r, S2, h4, h5⟩ := (show c ∈ cs ∧ _ from q)
    exact wq_try e h1 h2 h3 h4 h5
end Kp
set_option Elab.async false
set_option linter.all false
set_option maxRecDepth 100000
set_option maxHeartbeats 4000000
namespace Kp
open PySem L2
section
variable {S : Sto} {a : Option SV} {E : Ke}
@[simp] theorem r_mLc {vs : List Nat} {mi : M (List PV)} {g : PV → Sto → Option Sto} {mt : M Bool} {me : M PV} {P : Kt PV} : wr (mLc vs mi g mt me) (a :: S) P E ↔ wq (mLc vs mi g mt me) (a :: S) P := wr_leaf fun _ _ _ e => by
  unfold mLc at e
  split at e
  · split at e
    · split at e <;> cases e
    · cases e
  · cases e
@[simp] theorem r_mSl {m : M PV} {lo hi : M (Option Int)} {P : Kt PV} : wr (mSl m lo hi) (a :: S) P E ↔ wr m (a :: S) (fun x S1 => wr lo S1 (fun u S2 => wr hi S2 (fun v S3 => exS (pSl x u v) S3 P) E) E) E := by
  unfold mSl
  simp only [wr_bnd, wr_lift]
@[simp] theorem r_mBd {m : M PV} {P : Kt (Option Int)} : wr (mBd m) (a :: S) P E ↔ wr m (a :: S) (fun x S1 => inE x S1 fun i S2 => P (some i) S2) E := by
  unfold mBd
  rw [wr_bnd]
  constructor
  · refine fun h => wr_mono h (fun x S1 p => ?_) fun _ _ _ z => z
    cases x <;> first | exact ⟨_, rfl, wr_ret.mp p⟩ | exact (wr_none.mp p).elim
  · refine fun h => wr_mono h (fun x S1 p => ?_) fun _ _ _ z => z
    obtain ⟨i, rfl, p⟩ := p
    exact wr_ret.mpr p
@[simp] theorem r_mIndexOf {mo me : M PV} {P : Kt PV} : wr (mIndexOf mo me) (a :: S) P E ↔ wr mo (a :: S) (fun c S1 => exS (asSq c) S1 fun ys S2 => wr me S2 (fun x S3 => exS (idxB ys x) S3 P) E) E := by
  unfold mIndexOf
  simp only [wr_bnd, wr_lift]
@[simp] theorem r_mIns {i : Nat} {m n : M PV} {P : Kt Fl} : wr (mIns i m n) (a :: S) P E ↔ gdS (isOT "list" i (a :: S)) (a :: S) fun S0 => wr m S0 (fun x S1 => wr n S1 (fun y S2 => wr (updR i fun l => fIns l [x, y]) S2 (fun _ S3 => P .nx S3) E) E) E := by
  unfold mIns
  rw [r_mDrop, r_mMt]
  have k : ∀ S0 : Sto, wr (mArgs [m, n]) S0 (fun xs S1 => wr (updR i fun x => fIns x xs) S1 (fun _ S1 => P .nx S1) E) E ↔ wr m S0 (fun x S1 => wr n S1 (fun y S2 => wr (updR i fun l => fIns l [x, y]) S2 (fun _ S3 => P .nx S3) E) E) E := fun S0 => by
    show wr (bnd m fun x => bnd (bnd n fun y => bnd (ret []) fun ys => ret (y :: ys)) fun xs => ret (x :: xs)) S0 _ E ↔ _
    simp only [wr_bnd, wr_ret]
  simp only [gdS_eq, k]
end
end Kp
set_option Elab.async false
set_option linter.all false
set_option maxRecDepth 100000
set_option maxHeartbeats 4000000
namespace A07
open PySem L2 Kp
variable {e0 : PV}
/-! ### the source of draws -/
def Src (e x : PV) : Prop := ∃ (k b s c : Int), x = .lst [e, .int k, .int b, .int s, .int c] ∧ 0 ≤ k
def FrE (e : PV) : Prop := ∃ ns : List Int, e = .frl ns ∧ ns.length ≤ 63
theorem next_ok {x : PV} (hf : FrE e0) (h : Src e0 x) : ∃ x' y, f__law_next x [] = some (x', .ret y) ∧ (Src e0 x' ∧ y = .non) := by
  obtain ⟨ns, rfl, hn⟩ := hf
  obtain ⟨k, b, s, c, rfl, hk⟩ := h
  refine runI_wq ?_
  simp [m__law_next, N__law_next, stoP]
  refine brS_any (fun x => ∃ v : Int, x = .int v) (fun h => ?_) (fun h => ?_) (fun x ⟨v, e⟩ => ?_)
  · have h' := of_decide_eq_true h
    have q : ns[k.toNat]? = some ns[k.toNat] := List.getElem?_eq_getElem (by omega)
    simp [atI_int hk, q]
  · simp [pSl_frl (Nat.le_trans hn (by decide)), pMul_l, pMod_ii]
  · subst e
    simp [pPow_10_18]
    refine brS_any (fun x => ∃ v : Int, x = .int v) (fun h => ?_) (fun h => ?_) (fun x ⟨z, e⟩ => ?_)
    · simp
    · simp
    · subst e
      simp [pMod_ii, pMul_l]
      exact ⟨_, _, _, _, rfl, by omega⟩
theorem pick_ok {x : PV} {n : Int} (h : Src e0 x) (hn : 0 < n) (hn2 : n < 1073741824) : ∃ x' y, f__law_pick x [.int n] = some (x', .ret y) ∧ (Src e0 x' ∧ ∃ i : Nat, y = .int i ∧ (i : Int) < n) := by
  obtain ⟨k, b, s, c, rfl, hk⟩ := h
  refine runI_wq ?_
  simp [m__law_pick, N__law_pick, stoP]
  refine brS_intro (fun h => ?_) (fun h => ?_)
  · simp [pMod_ii hn, pDiv_ii hn hn2]
    refine ⟨⟨_, _, _, _, rfl, hk⟩, (b % n).toNat, ?_, ?_⟩
    · have := Int.emod_nonneg b (Int.ne_of_gt hn)
      omega
    · have := Int.emod_nonneg b (Int.ne_of_gt hn)
      have := Int.emod_lt_of_pos b hn
      omega
  · simp [pMod_ii, pMul_l, pMul_r]
    have l0 := Int.emod_nonneg (s * 48271 + (c + 1) * 1234577 + 7) (show (2147483647 : Int) ≠ 0 by decide)
    have l1 := Int.emod_lt_of_pos (s * 48271 + (c + 1) * 1234577 + 7) (show (0 : Int) < 2147483647 by decide)
    generalize (s * 48271 + (c + 1) * 1234577 + 7) % 2147483647 = low at l0 l1 ⊢
    rw [pMul_l (by omega) (by omega)]
    simp [pMod_ii, pMul_l, pMul_r]
    have h0 := Int.emod_nonneg (low * low + 16807 * (c + 1)) (show (2147483399 : Int) ≠ 0 by decide)
    have h1 := Int.emod_lt_of_pos (low * low + 16807 * (c + 1)) (show (0 : Int) < 2147483399 by decide)
    generalize (low * low + 16807 * (c + 1)) % 2147483399 = high at h0 h1 ⊢
    rw [pMul_l (by omega) (by omega)]
    simp [pMod_ii, pDiv_ii, hn]
    refine ⟨⟨_, _, _, _, rfl, hk⟩, ?_⟩
    generalize high * high % 2147483029 / 11 + low / 7 = z
    refine ⟨(z % n).toNat, ?_, ?_⟩
    · have := Int.emod_nonneg z (Int.ne_of_gt hn)
      omega
    · have := Int.emod_nonneg z (Int.ne_of_gt hn)
      have := Int.emod_lt_of_pos z hn
      omega
theorem one_in_ok {x : PV} {n : Int} (h : Src e0 x) (hn : 0 < n) (hn2 : n < 1073741824) : ∃ x' y, f__law_one_in x [.int n] = some (x', .ret y) ∧ (Src e0 x' ∧ ∃ b, y = .bl b) := by
  obtain ⟨x', y, e, hs, i, rfl, hi⟩ := pick_ok h hn hn2
  refine runI_wq ?_
  simp [m__law_one_in, N__law_one_in, stoP, e]
  exact ⟨hs, by omega⟩
theorem one_of_ok {x : PV} {xs : List PV} (h : Src e0 x) (hn : xs ≠ []) (hn2 : xs.length < 1000) : ∃ x' y, f__law_one_of x [.lst xs] = some (x', .ret y) ∧ (Src e0 x' ∧ y ∈ xs) := by
  have hp : 0 < xs.length := List.length_pos_iff.mpr hn
  obtain ⟨x', y, e, hs, i, rfl, hi⟩ := pick_ok h (n := xs.length) (by omega) (by omega)
  have hi' : i < xs.length := by omega
  have q : xs[i]? = some xs[i] := List.getElem?_eq_getElem hi'
  refine runI_wq ?_
  simp [m__law_one_of, N__law_one_of, stoP, e, atN, q]
  exact hs
/-! ### words -/
def lettersL : List Nat := [97, 98, 99, 100, 101, 102, 103, 104, 105, 106, 107, 108, 109, 110, 111, 112, 113, 114, 115, 116, 117, 118, 119, 120, 121, 122]
theorem letters_cps : Str.cps (Str.ofString "abcdefghijklmnopqrstuvwxyz") = lettersL.toArray := by decide +kernel
theorem lettersL_get : ∀ i : Nat, i < 26 → lettersL[i]? = some (97 + i) := by decide
theorem letter_ok (k : Nat) : f__law_letter [.int k] = some (.ret (.str (chr1 (97 + k % 26)))) := by
  refine runP_eq ?_
  simp [m__law_letter, N__law_letter, stoP, pMod_ii]
  have e : ((k : Int) % 26) = ((k % 26 : Nat) : Int) := by omega
  rw [e, atN]
  have c : tx (Str.ofString "abcdefghijklmnopqrstuvwxyz") = lettersL := by unfold tx; rw [letters_cps]
  rw [c, lettersL_get _ (Nat.mod_lt _ (by decide))]
  simp [chr1]
def isLet (c : Nat) : Bool := decide (97 ≤ c) && decide (c ≤ 122)
def lw (w : Str) : Prop := 1 ≤ (tx w).length ∧ (tx w).length ≤ 8 ∧ ∀ c ∈ (tx w), isLet c = true
theorem isLet_26 (k : Nat) : isLet (97 + k % 26) = true := by
  have := Nat.mod_lt k (show 0 < 26 by decide)
  unfold isLet
  rw [decide_eq_true (by omega), decide_eq_true (by omega)]
  rfl
theorem word_ok {x : PV} {n : Nat} (h : Src e0 x) (hn0 : 1 ≤ n) (hn : n ≤ 8) : ∃ x' y, f__law_word x [.int n] = some (x', .ret y) ∧ (Src e0 x' ∧ ∃ w : Str, y = .str w ∧ 1 ≤ (tx w).length ∧ (tx w).length ≤ n ∧ ∀ c ∈ (tx w), isLet c = true) := by
  obtain ⟨x1, y, e, hs, i, rfl, hi⟩ := pick_ok h (n := n) (by omega) (by omega)
  refine runI_wq ?_
  simp [m__law_word, N__law_word, stoP, e, rangeP_len, szL, isStr]
  refine ⟨inR_of (by omega) (by omega), by omega, lcE_inv (fun ys acc S => ∃ x, Src e0 x ∧ S = [some (.i x), some (.p (.int n)), some (.p (.int (1 + (i : Int)))), none] ∧ ∃ cs : List Nat, acc = cs.map (PV.str ∘ chr1) ∧ (∀ c ∈ cs, isLet c = true) ∧ cs.length + ys.length = 1 + i) ?_ ?_ ?_⟩
  · exact ⟨x1, hs, rfl, [], rfl, (by simp), by rw [rangeP_len]; simp; omega⟩
  · rintro y ys acc S ⟨x, hx, rfl, cs, rfl, hc, hl⟩
    obtain ⟨x2, y2, e2, hs2, j, rfl, hj⟩ := pick_ok hx (n := 26) (by decide) (by decide)
    refine ⟨_, by simp; rfl, ?_⟩
    simp [e2, letter_ok]
    refine ⟨x2, hs2, rfl, cs ++ [97 + j % 26], by simp, fun c hc' => ?_, by simp at hl ⊢; omega⟩
    rcases List.mem_append.mp hc' with q | q
    · exact hc c q
    · rw [List.mem_singleton.mp q]
      exact isLet_26 j
  · rintro acc S ⟨x, hx, rfl, cs, rfl, hc, hl⟩
    have hcl : cs.length = 1 + i := by simpa using hl
    simp [pJoin_chars cs (by omega)]
    refine ⟨hx, ?_⟩
    show 1 ≤ cs.length ∧ cs.length ≤ n ∧ ∀ c ∈ cs, isLet c = true
    exact ⟨by omega, by omega, hc⟩
def near (L : Nat) (w : Str) (j : Nat) : Str := cutS w none (some ((L : Int) - 1)) ++ chr1 (97 + j / 26 % 26) ++ chr1 (97 + j % 26)
theorem tx_near {L : Nat} (hL : 1 ≤ L) (w : Str) (j : Nat) : tx (near L w j) = (tx w).take (L - 1) ++ [97 + j / 26 % 26] ++ [97 + j % 26] := by
  unfold near
  have e : ((L : Int) - 1) = ((L - 1 : Nat) : Int) := by omega
  rw [tx_append, tx_append, e, cutS_to]
  rfl
theorem near_inj {L : Nat} (hL : 1 ≤ L) {w : Str} {i j : Nat} (hi : i < 26) (hj : j < 26) (h : near L w i = near L w j) : i = j := by
  have e : tx (near L w i) = tx (near L w j) := by rw [h]
  rw [tx_near hL, tx_near hL] at e
  have := (List.append_inj' e rfl).2
  simp at this
  omega
theorem near_lw {L : Nat} (hL : 1 ≤ L) (hL2 : L ≤ 7) {w : Str} (h : ∀ c ∈ tx w, isLet c = true) (j : Nat) : lw (near L w j) := by
  unfold lw
  rw [tx_near hL]
  refine ⟨by simp, ?_, fun c hc => ?_⟩
  · simp
    omega
  · rcases List.mem_append.mp hc with q | q
    · rcases List.mem_append.mp q with q | q
      · exact h c (List.mem_of_mem_take q)
      · rw [List.mem_singleton.mp q]
        exact isLet_26 _
    · rw [List.mem_singleton.mp q]
      exact isLet_26 _
structure IsStrs (x : PV) (ws : List Str) : Prop where
  len : pLen [x] = some (.int ws.length)
  hn : ∀ a : Str, pHasNot (.str a) x = some (.bl (!decide (a ∈ ws)))
  atom : True
theorem isStrs_l (ws : List Str) : IsStrs (.lst (ws.map .str)) ws := ⟨by simp, fun a => pHasNot_s, trivial⟩
theorem isStrs_t (ws : List Str) : IsStrs (.tup (ws.map .str)) ws := ⟨by simp, fun a => pHasNot_t, trivial⟩
theorem near_len {L : Nat} (hL : 1 ≤ L) {w : Str} (j : Nat) : (near L w j).length ≤ L + 1 := by
  show (tx (near L w j)).length ≤ L + 1
  rw [tx_near hL]
  simp
  omega
theorem words_ok {x : PV} {n L : Nat} {sp : List Str} {spv : PV} (h : Src e0 x) (hn : n ≤ 10) (hL : 1 ≤ L) (hL2 : L ≤ 7) (hsp : IsStrs spv sp) (hspl : sp.length ≤ 10) : ∃ x' y, f__law_words x [.int n, .int L, spv] = some (x', .ret y) ∧ (Src e0 x' ∧ ∃ ws : List Str, y = .lst (ws.map PV.str) ∧ ws.length = n ∧ ws.Nodup ∧ (∀ w ∈ ws, lw w ∧ w.length ≤ L + 1) ∧ ∀ w ∈ ws, w ∉ sp) := by
  refine runI_wq ?_
  have hlen := hsp.len
  have hhn := hsp.hn
  simp [m__law_words, N__law_words, stoP, inR_of (show -4611686018427387904 ≤ (n : Int) by omega) (by omega)]
  refine wq_loop (fun ys S => ∃ (x : PV) (ws : List Str) (o5 o6 o7 o8 : Option PV), Src e0 x ∧ S = [some (.i x), some (.p (.int n)), some (.p (.int L)), some (.p spv), some (.o (.lst (ws.map PV.str))), o5.map SV.p, o6.map SV.p, o7.map SV.p, o8.map SV.p, none, none] ∧ ws.length + ys.length = n ∧ ws.Nodup ∧ (∀ w ∈ ws, lw w ∧ w.length ≤ L + 1) ∧ ∀ w ∈ ws, w ∉ sp) ?_ ?_ ?_
  · rintro S ⟨x, ws, o5, o6, o7, o8, hx, rfl, hl, hd, hw, hs⟩
    simp
    exact ⟨hx, ws, rfl, by simpa using hl, hd, hw, hs⟩
  · rintro y ys S ⟨x, ws, o5, o6, o7, o8, hx, rfl, hl, hd, hw, hs⟩
    obtain ⟨x2, y2, e2, hs2, w, rfl, hw1, hw2, hw3⟩ := word_ok hx (n := L) hL (by omega)
    have hlw : ws.length ≤ 9 := by simp at hl; omega
    refine ⟨_, by simp; rfl, ?_⟩
    simp [e2, szL, rangeP_len, hlen]
    have en : ((sp.length : Int) + ws.length + 1).toNat = sp.length + ws.length + 1 := by omega
    rw [en]
    refine ⟨inR_of (by omega) (by omega), by omega, lcE_of (lcGo_mapf _ _ (fun _ => true) (fun j => .str (near L w j)) fun j hj => ?_) ?_⟩
    · have e3 : pDiv (.int (j : Int)) (.int 26) = some (.int ((j / 26 : Nat) : Int)) := by
        rw [pDiv_ii (by decide) (by decide)]
        rfl
      have hc1 : (cutS w none (some ((L : Int) - 1))).length ≤ 7 := by
        have := cutS_length w none (some ((L : Int) - 1))
        have : (tx w).length = w.length := rfl
        omega
      have hc2 : ∀ c, (chr1 c).length = 1 := fun _ => rfl
      have e4 : f__law_letter [.int ((j : Int) / 26)] = some (.ret (.str (chr1 (97 + j / 26 % 26)))) := letter_ok (j / 26)
      simp [e3, e4, letter_ok, szL, hc2, len_append, show (cutS w none (some ((L : Int) - 1))).length + 1 ≤ 16777216 by omega, show (cutS w none (some ((L : Int) - 1))).length + 1 + 1 ≤ 16777216 by omega]
      rfl
    · have e5 : (PV.str w :: List.map (fun j => PV.str (near L w j)) (List.range (sp.length + ws.length + 1))) = (w :: (List.range (sp.length + ws.length + 1)).map (near L w)).map PV.str := by simp [Function.comp_def]
      simp [szL]
      rw [e5]
      refine ⟨by omega, by omega, lcE_of (lcGo_mapf (w :: (List.range (sp.length + ws.length + 1)).map (near L w)) PV.str (fun c => !decide (c ∈ sp) && !decide (c ∈ ws)) PV.str fun c hc => ?_) ?_⟩
      · simp [hhn]
        by_cases q : c ∈ sp
        · simp [q]
          all_goals try rfl
        · simp [q]
          all_goals try simpa using h
      · have hnd : ((List.range (sp.length + ws.length + 1)).map (near L w)).Nodup := by
          refine List.Pairwise.map _ (fun a b hab e => ?_) (List.Pairwise.and_mem.mp (List.nodup_range (n := sp.length + ws.length + 1)))
          obtain ⟨ha, hb, hn⟩ := hab
          exact hn (near_inj hL (by have := List.mem_range.mp ha; omega) (by have := List.mem_range.mp hb; omega) e)
        obtain ⟨c, hc, hcw⟩ := pigeon _ (sp ++ ws) hnd (by simp)
        have hcs : c ∉ sp := fun q => hcw (List.mem_append_left _ q)
        have hcw' : c ∉ ws := fun q => hcw (List.mem_append_right _ q)
        have hne : c ∈ (w :: (List.range (sp.length + ws.length + 1)).map (near L w)).filter (fun c => !decide (c ∈ sp) && !decide (c ∈ ws)) := List.mem_filter.mpr ⟨List.mem_cons_of_mem _ hc, by simp [hcs, hcw']⟩
        have hall : ∀ d ∈ (w :: (List.range (sp.length + ws.length + 1)).map (near L w)).filter (fun c => !decide (c ∈ sp) && !decide (c ∈ ws)), (lw d ∧ d.length ≤ L + 1) ∧ d ∉ sp ∧ d ∉ ws := fun d hd => by
          obtain ⟨h1, h2⟩ := List.mem_filter.mp hd
          refine ⟨?_, by simpa using h2⟩
          rcases List.mem_cons.mp h1 with rfl | h1
          · exact ⟨⟨hw1, by omega, hw3⟩, Nat.le_succ_of_le hw2⟩
          · obtain ⟨j, _, rfl⟩ := List.mem_map.mp h1
            exact ⟨near_lw hL hL2 hw3 j, near_len hL j⟩
        generalize (w :: (List.range (sp.length + ws.length + 1)).map (near L w)).filter (fun c => !decide (c ∈ sp) && !decide (c ∈ ws)) = fl at hne hall ⊢
        cases fl with
        | nil => cases hne
        | cons d fl =>
          obtain ⟨h1, h2, h3⟩ := hall d List.mem_cons_self
          simp [szL]
          refine ⟨by omega, x2, hs2, ws ++ [d], ⟨rfl, by simp, ⟨some y, rfl⟩, ⟨some (PV.str w), rfl⟩, ⟨some _, rfl⟩, ⟨some _, rfl⟩⟩, by simp at hl ⊢; omega, ?_, fun v hv => ?_, fun v hv => ?_⟩
          · exact List.nodup_append.mpr ⟨hd, by simp, by simp; exact fun a ha e => h3 (e ▸ ha)⟩
          · rcases List.mem_append.mp hv with q | q
            · exact hw v q
            · rw [List.mem_singleton.mp q]
              exact h1
          · rcases List.mem_append.mp hv with q | q
            · exact hs v q
            · rw [List.mem_singleton.mp q]
              exact h2
  · exact ⟨x, [], none, none, none, none, h, rfl, by rw [rangeP_len]; simp, List.nodup_nil, by simp, by simp⟩
end A07

set_option Elab.async false
set_option linter.all false
set_option maxRecDepth 100000
set_option maxHeartbeats 4000000
namespace A07
open PySem L2 Kp
variable {e0 : PV}
/-! ### rows that are drawn one by one -/
theorem lcE_draw {vs : List Nat} {g : PV → Sto → Option Sto} {me : M PV} {ys : List PV} {x : PV} {P : Kt (List PV)} (mkS : PV → Sto) (Pin Pit : PV → Prop) (hx : Src e0 x) (hin : ∀ y ∈ ys, Pin y)
    (hstep : ∀ x y, Src e0 x → Pin y → ∃ S1, g y (mkS x) = some S1 ∧ wq me S1 fun z S3 => Pit z ∧ ∃ x', Src e0 x' ∧ wipeS S3 vs = mkS x')
    (k : ∀ zs x', zs.length = ys.length → (∀ z ∈ zs, Pit z) → Src e0 x' → P zs (mkS x')) : lcE (lcGo vs g mYes me ys (mkS x)) P := by
  refine lcE_inv (fun rest acc S => ∃ x, Src e0 x ∧ S = mkS x ∧ (∀ y ∈ rest, Pin y) ∧ (∀ z ∈ acc, Pit z) ∧ acc.length + rest.length = ys.length) ⟨x, hx, rfl, hin, by simp, by simp⟩ ?_ ?_
  · rintro y rest acc S ⟨x, hx, rfl, hin, hacc, hl⟩
    obtain ⟨S1, e1, h1⟩ := hstep x y hx (hin y List.mem_cons_self)
    refine ⟨S1, e1, wq_ret.mpr ⟨fun _ => wq_mono h1 fun z S3 h => ?_, fun q => by cases q⟩⟩
    obtain ⟨hz, x', hx', e⟩ := h
    refine ⟨x', hx', e, fun y hy => hin y (List.mem_cons_of_mem _ hy), fun w hw => ?_, by simp at hl ⊢; omega⟩
    rcases List.mem_append.mp hw with q | q
    · exact hacc w q
    · rw [List.mem_singleton.mp q]
      exact hz
  · rintro acc S ⟨x, hx, rfl, _, hacc, hl⟩
    exact k acc x (by simpa using hl) hacc hx
theorem strs_of : ∀ {zs : List PV} {p : Str → Prop}, (∀ z ∈ zs, ∃ s, z = .str s ∧ p s) → ∃ ss : List Str, zs = ss.map .str ∧ ∀ s ∈ ss, p s
  | [], _, _ => ⟨[], rfl, by simp⟩
  | z :: zs, p, h => by
    obtain ⟨s, rfl, hs⟩ := h z List.mem_cons_self
    obtain ⟨ss, rfl, hss⟩ := strs_of (zs := zs) (p := p) fun z hz => h z (List.mem_cons_of_mem _ hz)
    exact ⟨s :: ss, rfl, fun t ht => by
      rcases List.mem_cons.mp ht with rfl | ht
      · exact hs
      · exact hss t ht⟩
/-! ### the data -/
def note (w : Str) : Str := "*" ++ w
def isTok (s : Str) : Prop := lw s ∨ ∃ w, lw w ∧ s = note w
def isItem (s : Str) : Prop := isTok s ∨ s = ("_" : Str)
def gaps (ws : List Str) : Nat := (ws.filter fun s => decide (s = ("_" : Str))).length
def wayOk (g : Bool) (ws : List Str) : Prop := ws.length ≤ 6 ∧ (∀ s ∈ ws, isItem s) ∧ gaps ws = if g then 1 else 0
def freeOk (ws : List Str) : Prop := ws.length ≤ 6 ∧ ∀ s ∈ ws, isItem s
def scOk (sc : List Str) : Prop := sc = [("work" : Str)] ∨ sc = [("plain" : Str)] ∨ sc = [("quoted" : Str)] ∨ ∃ w, lw w ∧ (sc = [("in" : Str), w] ∨ sc = [("behind" : Str), w])
def patOk (p : List Str) : Prop := (∃ a b, p = [a, ("_" : Str), b] ∧ lw a ∧ lw b) ∨ (1 ≤ p.length ∧ p.length ≤ 3 ∧ ∀ w ∈ p, lw w)
def rw' (ws : List Str) : PV := .tup (ws.map .str)
def oR : Option (List Str) → PV
  | none => .non
  | some w => rw' w
def oS : Option Str → PV
  | none => .non
  | some w => .str w
structure Tm where
  n : Str
  p : List Str
  ws : List (List Str)
  sc : List Str
  fi : Option (List Str)
  tu : Option Str
def Tm.pv (t : Tm) : PV := .tup [.str t.n, rw' t.p, .tup (t.ws.map rw'), rw' t.sc, oR t.fi, oS t.tu]
def gp (p : List Str) : Bool := decide (("_" : Str) ∈ p)
structure Tm.ok (t : Tm) : Prop where
  n : lw t.n
  p : patOk t.p
  l1 : 1 ≤ t.ws.length
  l3 : t.ws.length ≤ 3
  ws : ∀ w ∈ t.ws, wayOk (gp t.p) w
  sc : scOk t.sc
  fi : ∀ w, t.fi = some w → wayOk (gp t.p) w
  tu : ∀ w, t.tu = some w → lw w
def pairP (p : Str × Str) : PV := .tup [.str p.1, .str p.2]
def mapR (m : Str × List (Str × Str)) : PV := .tup [.str m.1, .tup (m.2.map pairP)]
structure Bk where
  words : List Str
  heads : List Str
  quote : Option Str
  maps : List (Str × List (Str × Str))
  terms : List Tm
def Bk.pv (b : Bk) : PV := .tup [rw' b.words, rw' b.heads, oS b.quote, .tup (b.maps.map mapR), .tup (b.terms.map Tm.pv)]
def scIn (heads bare : List Str) (sc : List Str) : Prop := sc = [("work" : Str)] ∨ sc = [("plain" : Str)] ∨ sc = [("quoted" : Str)] ∨ (∃ w ∈ heads, sc = [("in" : Str), w]) ∨ ∃ w ∈ bare, sc = [("behind" : Str), w]
structure TmIn (words heads names : List Str) (t : Tm) : Prop where
  ok : t.ok
  p : ∀ w ∈ t.p, w = ("_" : Str) ∨ w ∈ words
  sc : scIn heads (words.filter fun w => !decide (w ∈ heads)) t.sc
  tu : ∀ w, t.tu = some w → w ∈ names
structure MapOk (m : Str × List (Str × Str)) : Prop where
  n : lw m.1
  l : m.2.length ≤ 4
  w : ∀ p ∈ m.2, lw p.1 ∧ lw p.2 ∧ p.1 ≠ p.2
  r : (m.2.map (·.1)).Pairwise tl_
structure Bk.ok (b : Bk) : Prop where
  l1 : 1 ≤ b.words.length
  l8 : b.words.length ≤ 8
  w : ∀ w ∈ b.words, lw w
  r : b.words.Pairwise tl_
  h : ∀ w ∈ b.heads, w ∈ b.words
  hr : b.heads.Pairwise tl_
  q : ∀ w, b.quote = some w → w ∈ b.words ∧ w ∉ b.heads
  m4 : b.maps.length ≤ 4
  m : ∀ m ∈ b.maps, MapOk m
  mr : (b.maps.map (·.1)).Pairwise tl_
  t8 : b.terms.length ≤ 8
  t : ∀ t ∈ b.terms, TmIn b.words b.heads (b.maps.map (·.1)) t
  tn : (b.terms.map (·.n)).Nodup
/-! ### signs -/
theorem tx_us : tx "_" = [95] := by decide +kernel
theorem tx_star : tx "*" = [42] := by decide +kernel
theorem lw_ne {w : Str} (h : lw w) : w ≠ ("_" : Str) := fun e => by
  have := h.2.2 95 (by rw [e, tx_us]; simp)
  cases this
theorem tx_note (w : Str) : tx (note w) = 42 :: tx w := by
  unfold note
  rw [tx_append, tx_star]
  rfl
theorem note_ne {w : Str} : note w ≠ ("_" : Str) := fun e => by
  have : tx (note w) = tx "_" := by rw [e]
  rw [tx_note, tx_us] at this
  cases this
theorem tok_ne {s : Str} (h : isTok s) : s ≠ ("_" : Str) := by
  rcases h with h | ⟨w, h, rfl⟩
  · exact lw_ne h
  · exact note_ne
theorem lw_len {w : Str} (h : lw w) : w.length ≤ 8 := h.2.1
theorem gaps_tok {ws : List Str} (h : ∀ s ∈ ws, isTok s) : gaps ws = 0 := by
  unfold gaps
  rw [List.filter_eq_nil_iff.mpr fun s hs => by simpa using tok_ne (h s hs)]
  rfl
/-! ### ways -/
theorem one_of_t {x : PV} {xs : List PV} (h : Src e0 x) (hn : xs ≠ []) (hn2 : xs.length < 1000) : ∃ x' y, f__law_one_of x [.tup xs] = some (x', .ret y) ∧ (Src e0 x' ∧ y ∈ xs) := by
  have hp : 0 < xs.length := List.length_pos_iff.mpr hn
  obtain ⟨x', y, e, hs, i, rfl, hi⟩ := pick_ok h (n := xs.length) (by omega) (by omega)
  have hi' : i < xs.length := by omega
  have q : xs[i]? = some xs[i] := List.getElem?_eq_getElem hi'
  refine runI_wq ?_
  simp [m__law_one_of, N__law_one_of, stoP, e, atN, q]
  exact hs
theorem one_of_s {x : PV} {ws : List Str} (h : Src e0 x) (hn : ws ≠ []) (hn2 : ws.length < 1000) : ∃ x' w, f__law_one_of x [.lst (ws.map .str)] = some (x', .ret (.str w)) ∧ Src e0 x' ∧ w ∈ ws := by
  obtain ⟨x', y, e, hs, hy⟩ := one_of_ok (xs := ws.map .str) h (by simpa using hn) (by simpa using hn2)
  obtain ⟨w, hw, rfl⟩ := List.mem_map.mp hy
  exact ⟨x', w, e, hs, hw⟩
end A07

set_option Elab.async false
set_option linter.all false
set_option maxRecDepth 100000
set_option maxHeartbeats 4000000
namespace A07
open PySem L2 Kp
variable {e0 : PV}
theorem map_mem_pv {β : Type} {xs : List β} {f : β → PV} {y : PV} (h : y ∈ xs.map f) : ∃ b ∈ xs, y = f b := by
  obtain ⟨b, hb, rfl⟩ := List.mem_map.mp h
  exact ⟨b, hb, rfl⟩
theorem scIn_ok {heads bare sc : List Str} (h : scIn heads bare sc) (hh : ∀ w ∈ heads, lw w) (hb : ∀ w ∈ bare, lw w) : scOk sc := by
  rcases h with h | h | h | ⟨w, hw, h⟩ | ⟨w, hw, h⟩
  · exact .inl h
  · exact .inr (.inl h)
  · exact .inr (.inr (.inl h))
  · exact .inr (.inr (.inr ⟨w, hh w hw, .inl h⟩))
  · exact .inr (.inr (.inr ⟨w, hb w hw, .inr h⟩))
theorem rws_of : ∀ {zs : List PV} {p : List Str → Prop}, (∀ z ∈ zs, ∃ s, z = rw' s ∧ p s) → ∃ ss : List (List Str), zs = ss.map rw' ∧ ∀ s ∈ ss, p s
  | [], _, _ => ⟨[], rfl, by simp⟩
  | z :: zs, p, h => by
    obtain ⟨s, rfl, hs⟩ := h z List.mem_cons_self
    obtain ⟨ss, rfl, hss⟩ := rws_of (zs := zs) (p := p) fun z hz => h z (List.mem_cons_of_mem _ hz)
    exact ⟨s :: ss, rfl, fun t ht => by
      rcases List.mem_cons.mp ht with rfl | ht
      · exact hs
      · exact hss t ht⟩
theorem len3 {α : Type} {l : List α} (h : l.length = 3) : ∃ a b c, l = [a, b, c] := by
  match l, h with
  | [a, b, c], _ => exact ⟨a, b, c, rfl⟩
theorem us_iff {p : List Str} (h : ∀ w ∈ p, lw w) : gp p = false := by
  unfold gp
  exact decide_eq_false fun q => lw_ne (h _ q) rfl
theorem gp_us {a b : Str} : gp [a, ("_" : Str), b] = true := by
  unfold gp
  exact decide_eq_true (by simp)
theorem one_of_st {x : PV} {ws : List Str} (h : Src e0 x) (hn : ws ≠ []) (hn2 : ws.length < 1000) : ∃ x' w, f__law_one_of x [.tup (ws.map .str)] = some (x', .ret (.str w)) ∧ Src e0 x' ∧ w ∈ ws := by
  obtain ⟨x', y, e, hs, hy⟩ := one_of_t (xs := ws.map .str) h (by simpa using hn) (by simpa using hn2)
  obtain ⟨w, hw, rfl⟩ := List.mem_map.mp hy
  exact ⟨x', w, e, hs, hw⟩
end A07

set_option Elab.async false
set_option linter.all false
set_option maxRecDepth 100000
set_option maxHeartbeats 4000000
namespace A07
open PySem L2 Kp
variable {e0 : PV}
/-! ### books -/
theorem tx_tail : tx "qjxzvkwy" = [113, 106, 120, 122, 118, 107, 119, 121] := by decide +kernel
theorem longer_lw {w : Str} (h : lw w) : lw (cutS (w ++ "qjxzvkwy") none (some 8)) := by
  unfold lw
  rw [show (some 8 : Option Int) = some ((8 : Nat) : Int) from rfl, cutS_to, tx_append, tx_tail]
  have h1 := h.1
  refine ⟨by simp <;> omega, by simp <;> omega, fun c hc => ?_⟩
  rcases List.mem_append.mp (List.mem_of_mem_take hc) with q | q
  · exact h.2.2 c q
  · simp at q
    rcases q with rfl | rfl | rfl | rfl | rfl | rfl | rfl | rfl <;> rfl
theorem lcE_take {v : Nat} {S0 : PV → Sto} {mt : M Bool} {ws : List Str} {x : PV} {P : Kt (List PV)} (hx : Src e0 x)
    (hstep : ∀ (x : PV) (w : Str), Src e0 x → w ∈ ws → ∃ S1, gN v (.str w) (S0 x) = some S1 ∧ wq mt S1 fun b S2 => ∃ x', Src e0 x' ∧ wipeS S2 [v] = S0 x' ∧ (b = true → wq (mVar v) S2 fun z S3 => z = .str w ∧ wipeS S3 [v] = S0 x'))
    (k : ∀ (hs : List Str) x', hs.Sublist ws → Src e0 x' → P (hs.map .str) (S0 x')) : lcE (lcGo [v] (gN v) mt (mVar v) (ws.map .str) (S0 x)) P := by
  refine lcE_inv (fun rest acc S => ∃ (x : PV) (dn hs rs : List Str), Src e0 x ∧ S = S0 x ∧ rest = rs.map .str ∧ acc = hs.map .str ∧ dn ++ rs = ws ∧ hs.Sublist dn) ⟨x, [], [], ws, hx, rfl, rfl, rfl, rfl, List.Sublist.refl _⟩ ?_ ?_
  · rintro y rest acc S ⟨x, dn, hs, rs, hx, rfl, er, rfl, ed, hsub⟩
    cases rs with
    | nil => cases er
    | cons r rs =>
      obtain ⟨rfl, rfl⟩ := List.cons.inj er
      obtain ⟨S1, e1, b, S2, e2, x', hx', ew, hb⟩ := hstep x r hx (by rw [← ed]; simp)
      refine ⟨S1, e1, b, S2, e2, fun q => wq_mono (hb q) fun z S3 h => ?_, fun q => ?_⟩
      · exact ⟨x', dn ++ [r], hs ++ [r], rs, hx', h.2, rfl, by rw [h.1]; simp, by rw [← ed]; simp, hsub.append (List.Sublist.refl _)⟩
      · exact ⟨x', dn ++ [r], hs, rs, hx', ew, rfl, rfl, by rw [← ed]; simp, hsub.trans (List.sublist_append_left _ _)⟩
  · rintro acc S ⟨x, dn, hs, rs, hx, rfl, er, rfl, ed, hsub⟩
    have : rs = [] := by simpa using er.symm
    subst this
    rw [List.append_nil] at ed
    subst ed
    exact k hs x hsub hx
end A07

set_option Elab.async false
set_option linter.all false
set_option maxRecDepth 100000
set_option maxHeartbeats 4000000
namespace A07
open PySem L2 Kp
/-! ### deep -/
def gdv : Nat → PV → Bool
  | _, .non => true
  | _, .bl _ => true
  | _, .int _ => true
  | _, .str _ => true
  | d + 1, .tup xs => decide (xs.length ≤ 1000) && xs.all (gdv d)
  | d + 1, .lst xs => decide (xs.length ≤ 1000) && xs.all (gdv d)
  | _, _ => false
def deepN : Nat → PV → PV
  | d + 1, .tup xs => .tup (xs.map (deepN d))
  | d + 1, .lst xs => .tup (xs.map (deepN d))
  | _, x => x
def listsN : Nat → PV → PV
  | d + 1, .tup xs => .lst (xs.map (listsN d))
  | _, x => x
theorem gdv_seq {d : Nat} {xs : List PV} (h : (decide (xs.length ≤ 1000) && xs.all (gdv d)) = true) : xs.length ≤ 1000 ∧ ∀ x ∈ xs, gdv d x = true := by
  rw [Bool.and_eq_true] at h
  exact ⟨of_decide_eq_true h.1, List.all_eq_true.mp h.2⟩
theorem deep_d : ∀ (d : Nat) (x : PV), gdv d x = true → fd_deep (d + 1) [x] = some (.ret (deepN d x)) := by
  have seq : ∀ (d : Nat) (xs : List PV) (S : Sto), xs.length ≤ 1000 → (∀ x ∈ xs, fd_deep (d + 1) [x] = some (.ret (deepN d x))) → ∀ a, lcGo [1] (gN 1) mYes (mCall (fd_deep (d + 1)) [mVar 1]) xs [a, none] = some (xs.map (deepN d), [a, none]) := fun d xs S hl ih a => by
    have := lcGo_pure (vs := [1]) (g := gN 1) (mt := mYes) (me := mCall (fd_deep (d + 1)) [mVar 1]) (S := [a, none]) (fun _ => true) (deepN d) (ys := xs) fun y hy => ⟨[a, some (.p y)], by simp, by simp [ih y hy]⟩
    rw [this, filter_tt]
  intro d
  induction d with
  | zero =>
    intro x h
    refine runP_eq ?_
    cases x with
    | _ => first | (cases h; done) | simp [m_deep, N_deep, stoP, ansAny_f, deepN]
  | succ d ih =>
    intro x h
    refine runP_eq ?_
    cases x with
    | tup xs =>
      obtain ⟨hl, hx⟩ := gdv_seq h
      simp [m_deep, N_deep, stoP, ansAny_f, ansAny_t, deepN, szL]
      exact ⟨by omega, lcE_of (seq d xs [] hl (fun x hx' => ih x (hx x hx')) _) (by simp)⟩
    | lst xs =>
      obtain ⟨hl, hx⟩ := gdv_seq h
      simp [m_deep, N_deep, stoP, ansAny_f, ansAny_t, deepN, szL]
      exact ⟨by omega, lcE_of (seq d xs [] hl (fun x hx' => ih x (hx x hx')) _) (by simp)⟩
    | _ => first | (cases h; done) | simp [m_deep, N_deep, stoP, ansAny_f, deepN]
theorem deep_ok {x : PV} (h : gdv 7 x = true) : f_deep [x] = some (.ret (deepN 7 x)) := deep_d 7 x h
theorem lists_d : ∀ (d : Nat) (x : PV), gdv d x = true → fd__law_lists (d + 1) [x] = some (.ret (listsN d x)) := by
  intro d
  induction d with
  | zero =>
    intro x h
    refine runP_eq ?_
    cases x with
    | _ => first | (cases h; done) | simp [m__law_lists, N__law_lists, stoP, listsN]
  | succ d ih =>
    intro x h
    refine runP_eq ?_
    cases x with
    | tup xs =>
      obtain ⟨hl, hx⟩ := gdv_seq h
      simp [m__law_lists, N__law_lists, stoP, listsN, szL]
      refine ⟨by omega, lcE_of (zs := xs.map (listsN d)) (S2 := [some (.p (.tup xs)), none]) ?_ (by simp)⟩
      have := lcGo_pure (vs := [1]) (g := gN 1) (mt := mYes) (me := mCall (fd__law_lists (d + 1)) [mVar 1]) (S := [some (.p (.tup xs)), none]) (fun _ => true) (listsN d) (ys := xs) fun y hy => ⟨[some (.p (.tup xs)), some (.p y)], by simp, by simp [ih y (hx y hy)]⟩
      rw [this, filter_tt]
    | _ => first | (cases h; done) | simp [m__law_lists, N__law_lists, stoP, listsN]
theorem lists_ok {x : PV} (h : gdv 7 x = true) : f__law_lists [x] = some (.ret (listsN 7 x)) := lists_d 7 x h
theorem deep_lists : ∀ (d : Nat) (x : PV), deepN d (listsN d x) = deepN d x
  | 0, x => rfl
  | d + 1, x => by
    cases x <;> try rfl
    rename_i xs
    show PV.tup ((xs.map (listsN d)).map (deepN d)) = PV.tup (xs.map (deepN d))
    rw [List.map_map]
    congr 1
    exact List.map_congr_left fun x _ => deep_lists d x
theorem gdv_lists : ∀ (d : Nat) (x : PV), gdv d x = true → gdv d (listsN d x) = true
  | 0, x, h => h
  | d + 1, x, h => by
    cases x <;> try exact h
    rename_i xs
    obtain ⟨hl, hx⟩ := gdv_seq h
    show (decide ((xs.map (listsN d)).length ≤ 1000) && (xs.map (listsN d)).all (gdv d)) = true
    rw [List.length_map, decide_eq_true hl, Bool.true_and, List.all_map]
    exact List.all_eq_true.mpr fun x hm => gdv_lists d x (hx x hm)
def gtv : Nat → PV → Bool
  | _, .non => true
  | _, .bl _ => true
  | _, .int _ => true
  | _, .str _ => true
  | d + 1, .tup xs => decide (xs.length ≤ 1000) && xs.all (gtv d)
  | _, _ => false
theorem gtv_seq {d : Nat} {xs : List PV} (h : (decide (xs.length ≤ 1000) && xs.all (gtv d)) = true) : xs.length ≤ 1000 ∧ ∀ x ∈ xs, gtv d x = true := by
  rw [Bool.and_eq_true] at h
  exact ⟨of_decide_eq_true h.1, List.all_eq_true.mp h.2⟩
theorem gtv_tup {d : Nat} {xs : List PV} (hl : xs.length ≤ 1000) (h : ∀ x ∈ xs, gtv d x = true) : gtv (d + 1) (.tup xs) = true := by
  show (decide (xs.length ≤ 1000) && xs.all (gtv d)) = true
  rw [decide_eq_true hl, Bool.true_and]
  exact List.all_eq_true.mpr h
theorem gtv_gdv : ∀ (d : Nat) (x : PV), gtv d x = true → gdv d x = true
  | 0, x, h => by cases x <;> first | exact h | cases h
  | d + 1, x, h => by
    cases x <;> first | exact h | skip
    · rename_i xs
      obtain ⟨hl, hx⟩ := gtv_seq h
      show (decide (xs.length ≤ 1000) && xs.all (gdv d)) = true
      rw [decide_eq_true hl, Bool.true_and]
      exact List.all_eq_true.mpr fun x hm => gtv_gdv d x (hx x hm)
    · cases h
theorem gtv_deep : ∀ (d : Nat) (x : PV), gtv d x = true → deepN d x = x
  | 0, x, h => rfl
  | d + 1, x, h => by
    cases x <;> first | rfl | skip
    · rename_i xs
      obtain ⟨hl, hx⟩ := gtv_seq h
      show PV.tup (xs.map (deepN d)) = _
      congr 1
      conv => rhs; rw [← List.map_id xs]
      exact List.map_congr_left fun x hm => gtv_deep d x (hx x hm)
    · cases h
theorem deep_t {x : PV} (h : gtv 7 x = true) : f_deep [x] = some (.ret x) := by
  rw [deep_ok (gtv_gdv 7 x h), gtv_deep 7 x h]
theorem gtv_s {d : Nat} {s : Str} : gtv d (.str s) = true := by cases d <;> rfl
theorem gtv_n {d : Nat} : gtv d .non = true := by cases d <;> rfl
theorem gtv_rw {d : Nat} {ws : List Str} (h : ws.length ≤ 1000) : gtv (d + 1) (rw' ws) = true := by
  refine gtv_tup (by simpa using h) fun x hx => ?_
  obtain ⟨w, _, rfl⟩ := map_mem_pv hx
  exact gtv_s
theorem gtv_rws {d : Nat} {ws : List (List Str)} (h : ws.length ≤ 1000) (h2 : ∀ w ∈ ws, w.length ≤ 1000) : gtv (d + 2) (.tup (ws.map rw')) = true := by
  refine gtv_tup (by simpa using h) fun x hx => ?_
  obtain ⟨w, hw, rfl⟩ := map_mem_pv hx
  exact gtv_rw (h2 w hw)
/-! ### words, notes, tokens -/
def wB (w : Str) : Bool := decide (1 ≤ w.length) && decide (w.length ≤ 8) && (tx w).all isLet
theorem tx_a : tx "a" = [97] := by decide +kernel
theorem tx_z : tx "z" = [122] := by decide +kernel
theorem tx_mk1 (c : Nat) : tx ⟨#[c]⟩ = [c] := rfl
theorem charsP_tx (w : Str) : charsP w = (tx w).map fun c => .str ⟨#[c]⟩ := rfl
theorem lt1 (c d : Nat) : ([c] : List Nat) < [d] ↔ c < d := by
  rw [List.cons_lt_cons_iff]
  simp
theorem wB_of {w : Str} (h : lw w) : wB w = true := by
  unfold wB
  rw [decide_eq_true (show 1 ≤ w.length from h.1), decide_eq_true (show w.length ≤ 8 from h.2.1)]
  exact List.all_eq_true.mpr h.2.2
theorem is_word_b {w : Str} : f_is_word [.str w] = some (.ret (.bl (wB w))) := by
  refine runP_eq ?_
  simp [m_is_word, N_is_word, stoP, wB]
  by_cases h1 : (1 : Int) ≤ w.length
  · by_cases h2 : (w.length : Int) ≤ 8
    · have h1' : 1 ≤ w.length := by omega
      have h2' : w.length ≤ 8 := by omega
      simp [h1, h2, h1', h2', charsP_tx]
      refine wq_loop (fun ys S => ∃ (cs : List Nat) (o : Option PV), ys = cs.map (fun c => .str ⟨#[c]⟩) ∧ (tx w).all isLet = cs.all isLet ∧ S = [some (.p (.str w)), o.map SV.p]) ?_ ?_ ⟨tx w, none, rfl, rfl, rfl⟩
      · rintro S ⟨cs, o, e, ea, rfl⟩
        have : cs = [] := by simpa using e.symm
        subst this
        simp [ea]
      · rintro y ys S ⟨cs, o, e, ea, rfl⟩
        cases cs with
        | nil => cases e
        | cons c cs =>
          obtain ⟨rfl, rfl⟩ := List.cons.inj e
          refine ⟨_, by simp; rfl, ?_⟩
          simp [tx_a, tx_z, tx_mk1, lt1]
          rw [ea]
          by_cases q1 : c < 97
          · have : isLet c = false := by unfold isLet; rw [decide_eq_false (by omega)]; rfl
            simp [q1, this, tx_a, tx_z, tx_mk1, lt1]
          · by_cases q2 : 122 < c
            · have : isLet c = false := by unfold isLet; rw [decide_eq_false (p := c ≤ 122) (by omega), Bool.and_false]
              simp [q1, q2, this, tx_a, tx_z, tx_mk1, lt1]
            · have : isLet c = true := by unfold isLet; rw [decide_eq_true (by omega), decide_eq_true (by omega)]; rfl
              simp [q1, q2, this, tx_a, tx_z, tx_mk1, lt1]
              exact ⟨cs, rfl, rfl, some _, rfl⟩
    · have h2' : ¬ w.length ≤ 8 := by omega
      simp [h1, h2, h2']
  · have h1' : w.length = 0 := by omega
    simp [h1, h1']
theorem is_word_t {w : Str} (h : lw w) : f_is_word [.str w] = some (.ret (.bl true)) := by rw [is_word_b, wB_of h]
theorem wB_note {w : Str} : wB (note w) = false := by
  unfold wB
  rw [tx_note]
  simp [isLet]
theorem wB_us : wB ("_" : Str) = false := by decide +kernel
theorem is_word_n {w : Str} : f_is_word [.str (note w)] = some (.ret (.bl false)) := by rw [is_word_b, wB_note]
theorem is_word_u : f_is_word [.str "_"] = some (.ret (.bl false)) := by rw [is_word_b, wB_us]
/-! ### patterns, ways, scopes -/
theorem way_free {g : Bool} {ws : List Str} (h : wayOk g ws) : freeOk ws := ⟨h.1, h.2.1⟩
end A07
set_option Elab.async false
set_option linter.all false
set_option maxRecDepth 100000
set_option maxHeartbeats 4000000
namespace A07
open PySem L2 Kp
@[simp] theorem lookup_c {f g : Str} {x : PV} {r : List (Str × PV)} : List.lookup f ((g, x) :: r) = if f = g then some x else List.lookup f r := by
  rw [List.lookup_cons]
  by_cases h : f = g
  · rw [if_pos h, h]
    simp
  · rw [if_neg h, beq_eq_false_iff_ne.mpr h]
/-! ### the lines' reader -/
def LO (ts : List PV) (n : Nat) : PV := .obj 11 [("texts", .lst ts), ("place", .int n)]
def badF (n k : Nat) : List (Str × PV) := [("word", .int k), ("line", .int n)]
def bad (n k : Nat) : RO := .exc 5 (badF n k)
/-- what may stand among lines -/
def okT : PV → Bool
  | .str s => decide (s.length ≤ 50000)
  | .non => true
  | .int _ => true
  | .bl _ => true
  | .tup _ => true
  | .lst _ => true
  | _ => false
def lnw : PV → Option (List Str)
  | .str s => some (sx s)
  | _ => none
/-- the words of line n -/
def lwA (ts : List PV) (n : Nat) : Option (List Str) := ts[n]?.bind lnw
structure Okl (ts : List PV) : Prop where
  l : ts.length ≤ 1000
  t : ∀ t ∈ ts, okT t = true
variable {ts : List PV} {n : Nat}
theorem lwA_len (h : Okl ts) {ws : List Str} (e : lwA ts n = some ws) : ws ≠ [] ∧ ws.length ≤ 50001 ∧ n < ts.length ∧ ∀ w ∈ ws, w.length ≤ 50000 := by
  unfold lwA at e
  cases q : ts[n]? with
  | none => rw [q] at e; cases e
  | some t =>
    rw [q] at e
    have ht := h.t t (List.mem_of_getElem? q)
    cases t <;> try (cases e; done)
    rename_i s
    cases e
    have hs : s.length ≤ 50000 := of_decide_eq_true ht
    refine ⟨sx_ne s, by have := sx_len s; omega, (List.getElem?_eq_some_iff.mp q).1, fun w hw => by have := sx_mem hw; omega⟩
def linesR (ts : List PV) (n : Nat) : RO := match lwA ts n with
  | some ws => .ret (.lst (ws.map .str))
  | none => bad n 0
theorem line_words_ok (h : Okl ts) : f_Lines_line_words (LO ts n) [] = some (LO ts n, linesR ts n) := by
  cases q : ts[n]? with
  | none =>
    have hc : ts.length ≤ n := List.getElem?_eq_none_iff.mp q
    have e : linesR ts n = bad n 0 := by simp [linesR, lwA, q]
    rw [e]
    refine runI_wr ?_
    simp [m_Lines_line_words, N_Lines_line_words, stoP, LO, bad, badF, hc, fldsP]
  | some t =>
    have hc : n < ts.length := (List.getElem?_eq_some_iff.mp q).1
    have hc' : ¬ ts.length ≤ n := by omega
    have ht := h.t t (List.mem_of_getElem? q)
    cases t <;> try (cases ht; done)
    case str s =>
      have hs : s.length ≤ 50000 := of_decide_eq_true ht
      have e : linesR ts n = .ret (.lst ((sx s).map .str)) := by simp [linesR, lwA, q, lnw]
      rw [e]
      refine runI_wr ?_
      simp [m_Lines_line_words, N_Lines_line_words, stoP, LO, hc', atN, q, isStr, pSplit_sx (s := s) (by omega), flO]
    all_goals
      have e : linesR ts n = bad n 0 := by simp [linesR, lwA, q, lnw]
      rw [e]
      refine runI_wr ?_
      simp [m_Lines_line_words, N_Lines_line_words, stoP, LO, bad, badF, hc', atN, q, fldsP]
/-- the first word of line n: none at the end -/
def firstR (ts : List PV) (n : Nat) : RO := if ts.length ≤ n then .ret .non else match lwA ts n with
  | some ws => .ret (.str (ws.headD ""))
  | none => bad n 0
theorem head_at {ws : List Str} (h : ws ≠ []) : (ws.map PV.str)[0]? = some (.str (ws.headD "")) := by
  cases ws with
  | nil => exact absurd rfl h
  | cons w ws => rfl
theorem first_word_ok (h : Okl ts) : f_Lines_first_word (LO ts n) [] = some (LO ts n, firstR ts n) := by
  have el := line_words_ok (n := n) h
  unfold LO at el
  refine runI_wr ?_
  by_cases hc : ts.length ≤ n
  · simp [m_Lines_first_word, N_Lines_first_word, stoP, LO, hc, firstR, flO]
  · unfold linesR at el
    cases e : lwA ts n with
    | none =>
      rw [e] at el
      simp [m_Lines_first_word, N_Lines_first_word, stoP, LO, hc, firstR, e, el, bad]
    | some ws =>
      rw [e] at el
      have := (lwA_len h e).1
      simp [m_Lines_first_word, N_Lines_first_word, stoP, LO, hc, firstR, e, el, head_at this, flO]
theorem many_words_ok (h : Okl ts) {ws : List Str} (e : lwA ts n = some ws) : f_Lines_many_words (LO ts n) [] = some (LO ts n, .ret (.int ws.length)) := by
  have el := line_words_ok (n := n) h
  unfold LO linesR at el
  rw [e] at el
  refine runI_wr ?_
  simp [m_Lines_many_words, N_Lines_many_words, stoP, LO, el, flO]
theorem word_at_ok (h : Okl ts) {ws : List Str} (e : lwA ts n = some ws) {k : Nat} {w : Str} (hk : ws[k]? = some w) : f_Lines_word_at (LO ts n) [.int k] = some (LO ts n, .ret (.str w)) := by
  have el := line_words_ok (n := n) h
  unfold LO linesR at el
  rw [e] at el
  have hk1 : k < ws.length := (List.getElem?_eq_some_iff.mp hk).1
  have hk2 : ¬ ws.length ≤ k := by omega
  refine runI_wr ?_
  simp [m_Lines_word_at, N_Lines_word_at, stoP, LO, el, flO, hk2, atN, hk]
theorem fail_at_ok {k : Nat} : f_Lines_fail_at (LO ts n) [.int k] = some (LO ts n, bad n k) := by
  refine runI_wr ?_
  simp [m_Lines_fail_at, N_Lines_fail_at, stoP, LO, bad, badF, fldsP]
def wantR (ts : List PV) (n : Nat) (w : Str) : RO := match lwA ts n with
  | some ws => if ws.headD "" = w then .ret .non else bad n 0
  | none => bad n 0
theorem want_word_ok (h : Okl ts) {w : Str} : f_Lines_want_word (LO ts n) [.str w] = some (LO ts n, wantR ts n w) := by
  have el := line_words_ok (n := n) h
  unfold LO linesR at el
  refine runI_wr ?_
  cases e : lwA ts n with
  | none =>
    rw [e] at el
    simp [m_Lines_want_word, N_Lines_want_word, stoP, LO, el, wantR, e, bad]
  | some ws =>
    rw [e] at el
    have hne := (lwA_len h e).1
    cases ws with
    | nil => exact absurd rfl hne
    | cons w0 ws =>
      by_cases hw : w0 = w
      · simp [m_Lines_want_word, N_Lines_want_word, stoP, LO, el, wantR, e, hw, flO]
      · simp [m_Lines_want_word, N_Lines_want_word, stoP, LO, el, wantR, e, hw, bad, badF, fldsP]
theorem close_at_ok (h : Okl ts) {ws : List Str} (e : lwA ts n = some ws) {k : Nat} (hk : ws.length ≤ k) : f_Lines_close_at (LO ts n) [.int k] = some (LO ts (n + 1), .ret .non) := by
  have el := line_words_ok (n := n) h
  unfold LO linesR at el
  rw [e] at el
  have hk2 : ¬ k < ws.length := by omega
  refine runI_wr ?_
  simp [m_Lines_close_at, N_Lines_close_at, stoP, LO, el, hk2, flO, putFP]
theorem no_more_ok (h : Okl ts) : f_no_more (LO ts n) [] = some (LO ts n, if ts.length ≤ n then .ret .non else bad n 0) := by
  have ef := first_word_ok (n := n) h
  have e2 := fail_at_ok (ts := ts) (n := n) (k := 0)
  unfold LO at ef e2
  refine runI_wr ?_
  by_cases hc : ts.length ≤ n
  · simp [m_no_more, N_no_more, stoP, LO, hc, ef, firstR, flO]
  · cases e : lwA ts n with
    | none => simp [m_no_more, N_no_more, stoP, LO, hc, ef, firstR, e, bad]
    | some ws =>
      have e3 : f_Lines_fail_at (.obj 11 [("texts", .lst ts), ("place", .int n)]) [.int 0] = some (.obj 11 [("texts", .lst ts), ("place", .int n)], bad n 0) := e2
      simp [m_no_more, N_no_more, stoP, LO, hc, ef, firstR, e, e3, bad]
theorem lines_init {x : PV} {ts : List PV} (h : pList [x] = some (.lst ts)) : f_Lines___init__ (.obj 11 []) [x] = some (LO ts 0, .ret .non) := by
  refine runI_wr ?_
  simp [m_Lines___init__, N_Lines___init__, stoP, LO, h, flO, putFP]
end A07
set_option Elab.async false
set_option linter.all false
set_option maxRecDepth 100000
set_option maxHeartbeats 4000000
namespace A07
open PySem L2 Kp
/-! ### the plain law: pairs, readings, works -/
/-- what a word tells, cut at its first colon -/
def pa (w : Str) : Str := (Txt.partition w ":").1
def pm (w : Str) : Str := (Txt.partition w ":").2.1
def pq (w : Str) : Str := (Txt.partition w ":").2.2
def pairO (w : Str) : Option (Str × Nat) := if wB (pa w) = true then (if pm w = "" then some (pa w, 0) else if pq w = "1" then some (pa w, 1) else if pq w = "2" then some (pa w, 2) else none) else none
def prP (p : Str × Nat) : PV := .tup [.str p.1, .int p.2]
def rdP (r : List (Str × Nat)) : PV := .tup (r.map prP)
def bl2 : Bool → Bool := id
/-- where the pairs fail: the first word that tells none -/
def prs : Nat → List Str → Nat ⊕ List (Str × Nat)
  | _, [] => .inr []
  | k, w :: ws => match pairO w with
    | none => .inl k
    | some p => match prs (k + 1) ws with
      | .inl j => .inl j
      | .inr ps => .inr (p :: ps)
/-- a line's reading, or its first word that cannot stand there -/
def rdl : List Str → Nat ⊕ List (Str × Nat)
  | [] => .inl 0
  | w :: ws => if w = "read" then prs 1 ws else .inl 0
def rdT (t : PV) : Nat ⊕ List (Str × Nat) := match lnw t with
  | some ws => rdl ws
  | none => .inl 0
def rdA (ts : List PV) (n : Nat) : Nat ⊕ List (Str × Nat) := match ts[n]? with
  | some t => rdT t
  | none => .inl 0
theorem rdA_lw (ts : List PV) (n : Nat) : rdA ts n = match lwA ts n with
    | some ws => rdl ws
    | none => .inl 0 := by
  unfold rdA lwA
  cases ts[n]? with
  | none => rfl
  | some t => rfl
/-- a work's readings: from line k on -/
def rdW : Nat → List PV → (Nat × Nat) ⊕ List (List (Str × Nat))
  | _, [] => .inr []
  | k, t :: ts => if k = 6 then .inl (6, 0) else match rdT t with
    | .inl j => .inl (k, j)
    | .inr r => match rdW (k + 1) ts with
      | .inl e => .inl e
      | .inr rs => .inr (r :: rs)
def rdWork (ts : List PV) : (Nat × Nat) ⊕ List (List (Str × Nat)) := if ts = [] then .inl (0, 0) else rdW 0 ts
variable {ts : List PV} {n : Nat}
theorem part_len (w : Str) : (pa w).length ≤ w.length ∧ (pq w).length ≤ w.length := by
  unfold pa pq
  by_cases h : 58 ∈ tx w
  · obtain ⟨p, q, e, hp⟩ := first_at h
    rw [parts_s e hp]
    have hl : (tx w).length = w.length := rfl
    rw [e, List.length_append, List.length_cons] at hl
    refine ⟨?_, ?_⟩
    · show (SX.S p).length ≤ w.length
      rw [SX.S_len]
      omega
    · show (SX.S q).length ≤ w.length
      rw [SX.S_len]
      omega
  · rw [parts_n h]
    have z : Str.length (Str.ofString "") = 0 := by decide +kernel
    exact ⟨Nat.le_refl _, by show Str.length (Str.ofString "") ≤ _; omega⟩
theorem part_mid (w : Str) : pm w = "" ∨ pm w = ":" := by
  unfold pm
  by_cases h : 58 ∈ tx w
  · obtain ⟨p, q, e, hp⟩ := first_at h
    rw [parts_s e hp]
    exact .inr rfl
  · rw [parts_n h]
    exact .inl rfl
theorem co_ne : (":" : Str) ≠ "" := by decide +kernel
theorem pHasNot_12 (q : Str) : pHasNot (.str q) (.tup [.str "1", .str "2"]) = some (.bl (!decide (q = "1" ∨ q = "2"))) := by
  have := pHasNot_t (a := q) (ws := ["1", "2"])
  simpa using this
theorem pIntS_1 : pIntS [.str "1"] = some (.int 1) := by
  have e : PySem.intText? (Str.ofString "1") = some 1 := by decide +kernel
  have l : (Str.ofString "1").length ≤ 640 := by decide +kernel
  unfold pIntS
  dsimp only
  rw [if_pos l, e]
  rfl
theorem pIntS_2 : pIntS [.str "2"] = some (.int 2) := by
  have e : PySem.intText? (Str.ofString "2") = some 2 := by decide +kernel
  have l : (Str.ofString "2").length ≤ 640 := by decide +kernel
  unfold pIntS
  dsimp only
  rw [if_pos l, e]
  rfl
theorem pParts_w {w : Str} (h : w.length ≤ 50000) : pParts (.str w) (.str ":") = some (.tup [.str (pa w), .str (pm w), .str (pq w)]) := by
  have hp := part_len w
  have z : Str.length (Str.ofString "") = 0 := by decide +kernel
  unfold pParts
  dsimp only
  rw [szL, len_co, if_pos]
  · rfl
  · refine ⟨rfl, by omega, by have := hp.1; unfold pa at this; omega, ?_, by have := hp.2; unfold pq at this; omega⟩
    rcases part_mid w with e | e <;> unfold pm at e <;> rw [e]
    · show Str.length (Str.ofString "") ≤ _
      omega
    · show Str.length (Str.ofString ":") ≤ _
      rw [len_co]
      omega
theorem pick_pair_ok (h : Okl ts) {ws : List Str} (e : lwA ts n = some ws) {k : Nat} {w : Str} (hk : ws[k]? = some w) :
    f_pick_pair_at (LO ts n) [.int k] = some (LO ts n, match pairO w with | some p => .ret (prP p) | none => bad n k) := by
  have ew := word_at_ok h e hk
  have ef := fail_at_ok (ts := ts) (n := n) (k := k)
  have hw : w.length ≤ 50000 := (lwA_len h e).2.2.2 w (List.mem_of_getElem? hk)
  have ep := pParts_w hw
  unfold LO at ew ef
  unfold pairO
  refine runI_wr ?_
  by_cases h1 : wB (pa w) = true
  · rcases part_mid w with h2 | h2
    · simp [m_pick_pair_at, N_pick_pair_at, stoP, LO, ew, ep, isStr, is_word_b, h1, h2, prP, flO]
    · by_cases h3 : pq w = "1"
      · simp [m_pick_pair_at, N_pick_pair_at, stoP, LO, ew, ep, isStr, is_word_b, h1, h2, h3, co_ne, pHasNot_12, pIntS_1, prP, flO]
      · by_cases h4 : pq w = "2"
        · simp [m_pick_pair_at, N_pick_pair_at, stoP, LO, ew, ep, isStr, is_word_b, h1, h2, h4, co_ne, pHasNot_12, pIntS_2, prP, flO]
        · simp [m_pick_pair_at, N_pick_pair_at, stoP, LO, ew, ep, isStr, is_word_b, h1, h2, h3, h4, co_ne, pHasNot_12, ef, bad]
  · have h1' : wB (pa w) = false := by simpa using h1
    simp [m_pick_pair_at, N_pick_pair_at, stoP, LO, ew, ep, isStr, is_word_b, h1', ef, bad]
/-! a reading's row -/
def xP (n k : Nat) (w : Str) : Ex1 := match pairO w with
  | some p => .inl (prP p)
  | none => .inr (5, badF n k)
theorem prs_mapX (n : Nat) : ∀ (ws : List Str) (k : Nat), mapX ((List.range ws.length).map fun i => xP n (k + i) (ws.getD i "")) = match prs k ws with
    | .inl j => .inr (5, badF n j)
    | .inr ps => .inl (ps.map prP)
  | [], k => rfl
  | w :: ws, k => by
    have ih := prs_mapX n ws (k + 1)
    rw [List.length_cons, List.range_succ_eq_map, List.map_cons, List.map_map]
    have e : (List.range ws.length).map ((fun i => xP n (k + i) ((w :: ws).getD i "")) ∘ Nat.succ) = (List.range ws.length).map fun i => xP n (k + 1 + i) (ws.getD i "") := by
      refine List.map_congr_left fun i _ => ?_
      show xP n (k + (i + 1)) (ws.getD i "") = _
      rw [show k + (i + 1) = k + 1 + i by omega]
    rw [e]
    unfold prs
    show mapX (xP n (k + 0) w :: _) = _
    rw [Nat.add_zero]
    unfold xP
    cases hp : pairO w with
    | none => rfl
    | some p =>
      dsimp only
      unfold mapX
      have ih' : mapX ((List.range ws.length).map fun i => (match pairO (ws.getD i "") with | some p => (.inl (prP p) : Ex1) | none => .inr (5, badF n (k + 1 + i)))) = _ := ih
      rw [ih']
      cases prs (k + 1) ws <;> rfl
def rowR (n : Nat) : Nat ⊕ List (Str × Nat) → RO
  | .inl j => bad n j
  | .inr ps => .ret (rdP ps)
theorem reading_row_ok (h : Okl ts) : f_reading_row (LO ts n) [] = some (LO ts (match rdA ts n with | .inl _ => n | .inr _ => n + 1), rowR n (rdA ts n)) := by
  have e1 := want_word_ok (n := n) h (w := "read")
  rw [rdA_lw]
  unfold LO wantR at e1
  refine runI_wr ?_
  cases e : lwA ts n with
  | none =>
    rw [e] at e1
    simp [m_reading_row, N_reading_row, stoP, LO, e1, rowR, bad]
  | some ws =>
    rw [e] at e1
    have hl := lwA_len h e
    cases ws with
    | nil => exact absurd rfl hl.1
    | cons w ws =>
      by_cases hw : w = "read"
      · subst hw
        have e2 := many_words_ok h e
        have e3 := close_at_ok h e (Nat.le_refl _)
        have hlen : ws.length + 1 ≤ 50001 := hl.2.1
        rw [List.length_cons, show ((ws.length + 1 : Nat) : Int) = (ws.length : Int) + 1 by omega] at e3
        unfold LO at e2 e3
        simp [m_reading_row, N_reading_row, stoP, LO, e1, e2]
        refine wr_mLcX ?_
        simp [szL, rangeP_len]
        have hwl : ws.length ≤ 50000 := by have z := hl.2.1; rw [List.length_cons] at z; omega
        refine ⟨by decide, inR_of (by omega) (by omega), by omega, ?_⟩
        refine lcXE_map (fun i : Nat => .int (1 + (i : Int))) (fun i => xP n (1 + i) (ws.getD i "")) (xs := List.range ws.length) ?_ ?_ ?_ ?_
        · rfl
        · intro i hi
          have hi' := List.mem_range.mp hi
          have hk : (("read" : Str) :: ws)[1 + i]? = some (ws.getD i "") := by
            rw [Nat.add_comm, List.getElem?_cons_succ, List.getElem?_eq_getElem hi']
            simp [List.getD, hi']
          have ep := pick_pair_ok h e hk
          unfold LO at ep
          rw [show ((1 + i : Nat) : Int) = 1 + (i : Int) by omega] at ep
          refine ⟨_, by simp; rfl, ?_⟩
          unfold xP
          cases hp : pairO (ws.getD i "") with
          | none =>
            rw [hp] at ep
            simp [ep, bad]
          | some p =>
            rw [hp] at ep
            simp [ep]
        · intro zs hz
          rw [prs_mapX] at hz
          simp [rdl]
          cases hp : prs 1 ws with
          | inl j => rw [hp] at hz; cases hz
          | inr ps =>
            rw [hp] at hz
            cases hz
            simp [e3, rowR, rdP, flO]
        · intro c fs S2 hz hw2
          rw [prs_mapX] at hz
          simp [rdl]
          cases hp : prs 1 ws with
          | inl j =>
            rw [hp] at hz
            cases hz
            rw [hw2]
            simp [rowR, bad, badF]
          | inr ps => rw [hp] at hz; cases hz
      · simp [m_reading_row, N_reading_row, stoP, LO, e1, hw, rdl, rowR, bad]
end A07
set_option Elab.async false
set_option linter.all false
set_option maxRecDepth 100000
set_option maxHeartbeats 4000000
namespace A07
open PySem L2 Kp
variable {ts : List PV} {n : Nat}
theorem okl_one {t : PV} (h : okT t = true) : Okl [t] := ⟨by simp, fun u hu => by
  rw [List.mem_singleton] at hu
  rw [hu]
  exact h⟩
/-- a line alone -/
theorem read_reading_ok {t : PV} (h : okT t = true) : f_read_reading [t] = some (rowR 0 (rdT t)) := by
  have e := reading_row_ok (n := 0) (okl_one h)
  have ea : rdA [t] 0 = rdT t := rfl
  rw [ea] at e
  refine runP_wr ?_
  simp [m_read_reading, N_read_reading, stoP]
  refine wr_mCallIF ?_
  simp [lines_init (x := .tup [t]) (ts := [t]) rfl]
  refine ⟨_, _, e, ?_⟩
  cases rdT t with
  | inl j => simp [rowR, bad]
  | inr r => simp [rowR, flO]
def cmb (rs : List (List (Str × Nat))) : (Nat × Nat) ⊕ List (List (Str × Nat)) → (Nat × Nat) ⊕ List (List (Str × Nat))
  | .inl e => .inl e
  | .inr q => .inr (rs ++ q)
def workR : (Nat × Nat) ⊕ List (List (Str × Nat)) → RO
  | .inl e => bad e.1 e.2
  | .inr rs => .ret (.tup (rs.map rdP))
theorem rdW_step {t : PV} (hn : n ≠ 6) (e : ts[n]? = some t) : rdW n (ts.drop n) = match rdT t with
    | .inl j => .inl (n, j)
    | .inr r => cmb [r] (rdW (n + 1) (ts.drop (n + 1))) := by
  obtain ⟨hlt, he⟩ := List.getElem?_eq_some_iff.mp e
  rw [List.drop_eq_getElem_cons hlt, he]
  conv => lhs; unfold rdW
  rw [if_neg hn]
  cases rdT t with
  | inl j => rfl
  | inr r =>
    dsimp only
    cases rdW (n + 1) (ts.drop (n + 1)) <;> rfl
theorem cmb_cmb (rs qs : List (List (Str × Nat))) (r : (Nat × Nat) ⊕ List (List (Str × Nat))) : cmb rs (cmb qs r) = cmb (rs ++ qs) r := by
  cases r with
  | inl e => rfl
  | inr q => simp [cmb]
def tailW : M Fl := mSeq (mDrop (mCallI 1 f_no_more [])) (mRet (mCB pTuple [mVar 2]))
theorem isMO_fw {ts : List PV} {n : Nat} : isMO 11 "first_word" (some (some (.o (LO ts n)))) = true := by simp [LO]
def wkS (x : PV) (ts : List PV) (n : Nat) (rs : List (List (Str × Nat))) : Sto := [some (.p x), some (.o (LO ts n)), some (.o (.lst (rs.map rdP)))]
def wkI (x : PV) (ts : List PV) (m : Nat) (S : Sto) : Prop := ∃ (n : Nat) (rs : List (List (Str × Nat))), n ≤ 6 ∧ n ≤ ts.length ∧ m = 6 - n ∧ rs.length = n ∧ S = wkS x ts n rs ∧ rdW 0 ts = cmb rs (rdW n (ts.drop n))
theorem read_work_ok {x : PV} (h : Okl ts) (hx : pList [x] = some (.lst ts)) : f_read_work [x] = some (workR (rdWork ts)) := by
  have hl := h.l
  refine runP_wr ?_
  change wr (mSeq _ (mSeq _ (mSeq _ tailW))) _ _ _
  simp [N_read_work, stoP, lines_init hx]
  have e0 := reading_row_ok (n := 0) h
  cases hd : ts with
  | nil =>
    rw [hd] at e0
    have ea : rdA ([] : List PV) 0 = .inl 0 := rfl
    rw [ea] at e0
    have er : rdWork ([] : List PV) = .inl (0, 0) := rfl
    simp [e0, er, rowR, bad, workR]
  | cons t tl =>
    have et : ts[0]? = some t := by rw [hd]; rfl
    rw [← hd]
    have hne : ts ≠ [] := by rw [hd]; simp
    have er : rdWork ts = rdW 0 ts := by unfold rdWork; rw [if_neg hne]
    have ea : rdA ts 0 = rdT t := by unfold rdA; rw [et]
    rw [ea] at e0
    have es := rdW_step (n := 0) (by decide) et
    rw [List.drop_zero] at es
    cases er0 : rdT t with
    | inl j =>
      rw [er0] at e0 es
      simp [e0, er, es, rowR, bad, workR]
    | inr r =>
      rw [er0] at e0 es
      simp only [] at es
      simp [e0, rowR]
      refine wr_while (wkI x ts) ?_ 200 5 _ ⟨1, [r], by decide, by rw [hd]; simp, rfl, rfl, rfl, es⟩ (by decide)
      rintro m S ⟨n, rs, h6, hn, rfl, hrs, rfl, hw⟩
      -- the lines that are left
      have fin : ∀ {S1 : Sto}, S1 = wkS x ts n rs → (n = 6 ∨ ts.length ≤ n) → wr tailW S1 (fun f _ => flO f = some (workR (rdWork ts))) fun c fs _ => workR (rdWork ts) = .exc c fs := fun {S1} e1 hc => by
        subst e1
        have en := no_more_ok (n := n) h
        rw [er, hw]
        by_cases hb : ts.length ≤ n
        · rw [if_pos hb] at en
          have ed : ts.drop n = [] := List.drop_of_length_le hb
          have ew : rdW n [] = .inr [] := rfl
          simp [tailW, wkS, en, ed, ew, cmb, workR, flO]
        · rw [if_neg hb] at en
          have h6' : n = 6 := by omega
          subst h6'
          have ed : ts.drop 6 = ts[6] :: ts.drop 7 := List.drop_eq_getElem_cons (by omega)
          have ew : rdW 6 (ts.drop 6) = .inl (6, 0) := by rw [ed]; rfl
          simp [tailW, wkS, en, ew, cmb, workR, bad]
      by_cases h6' : n = 6
      · subst h6'
        simp [wkS, hrs]
        exact fin rfl (.inl rfl)
      · have hlt : (n : Int) < 6 := by omega
        have ef := first_word_ok (n := n) h
        unfold firstR at ef
        by_cases hb : ts.length ≤ n
        · rw [if_pos hb] at ef
          simp [wkS, hrs, hlt, ef, isMO_fw]
          exact fin rfl (.inr hb)
        · rw [if_neg hb] at ef
          have htn : ts[n]? = some ts[n] := List.getElem?_eq_getElem (by omega)
          have es2 := rdW_step h6' htn
          have ea2 : rdA ts n = rdT ts[n] := by unfold rdA; rw [htn]
          have e2 := reading_row_ok (n := n) h
          rw [ea2] at e2
          cases el : lwA ts n with
          | none =>
            rw [el] at ef
            have q : rdT ts[n] = .inl 0 := by rw [← ea2, rdA_lw, el]
            rw [q] at es2
            simp [wkS, hrs, hlt, ef, isMO_fw, er, hw, es2, cmb, workR, bad]
          | some ws =>
            rw [el] at ef
            simp [wkS, hrs, hlt, ef, isMO_fw]
            cases er2 : rdT ts[n] with
            | inl j =>
              rw [er2] at e2 es2
              simp [e2, rowR, er, hw, es2, cmb, workR, bad]
            | inr r2 =>
              rw [er2] at e2 es2
              simp only [] at es2
              simp [e2, rowR, szL, hrs]
              refine ⟨by omega, 6 - (n + 1), by omega, n + 1, rs ++ [r2], by omega, by omega, rfl, by simp [hrs], by simp [wkS], ?_⟩
              rw [hw, es2, cmb_cmb]
end A07
set_option Elab.async false
set_option linter.all false
set_option maxRecDepth 100000
set_option maxHeartbeats 4000000
namespace A07
open PySem L2 Kp
/-! ### the law's own reader -/
theorem wq_of_wr {α : Type} {m : M α} {S : Sto} {P : Kt α} (h : wr m S P fun _ _ _ => False) : wq m S P := by
  obtain ⟨r, e, p⟩ := h
  cases r with
  | ok x S' => exact ⟨x, S', e, p⟩
  | ex c fs S' => exact (show False from p).elim
theorem pAll_map {β : Type} (f : β → Bool) (xs : List β) : pAll [.lst (xs.map fun x => .bl (f x))] = some (.bl (xs.all f)) := by
  have e : blsP (xs.map fun x => PV.bl (f x)) = some (xs.map f) := by
    induction xs with
    | nil => rfl
    | cons x xs ih =>
      show (blsP (xs.map fun x => PV.bl (f x))).map (f x :: ·) = _
      rw [ih]
      rfl
  show (blsP (xs.map fun x => PV.bl (f x))).map (fun ns => PV.bl (ns.all id)) = _
  rw [e]
  simp [List.all_map]
theorem mem_letters (c : Nat) : decide (c ∈ lettersL) = isLet c := by
  unfold isLet lettersL
  by_cases h1 : 97 ≤ c
  · by_cases h2 : c ≤ 122
    · have : c ∈ [97, 98, 99, 100, 101, 102, 103, 104, 105, 106, 107, 108, 109, 110, 111, 112, 113, 114, 115, 116, 117, 118, 119, 120, 121, 122] := by
        simp only [List.mem_cons, List.not_mem_nil, or_false]
        omega
      simp [this, h1, h2]
    · have : c ∉ [97, 98, 99, 100, 101, 102, 103, 104, 105, 106, 107, 108, 109, 110, 111, 112, 113, 114, 115, 116, 117, 118, 119, 120, 121, 122] := by
        simp only [List.mem_cons, List.not_mem_nil, or_false]
        omega
      simp [this, h2]
  · have : c ∉ [97, 98, 99, 100, 101, 102, 103, 104, 105, 106, 107, 108, 109, 110, 111, 112, 113, 114, 115, 116, 117, 118, 119, 120, 121, 122] := by
      simp only [List.mem_cons, List.not_mem_nil, or_false]
      omega
    simp [this, h1]
theorem pHas_letter (c : Nat) : pHas (.str ⟨#[c]⟩) (.str "abcdefghijklmnopqrstuvwxyz") = some (.bl (isLet c)) := by
  show (pHasB (.str ⟨#[c]⟩) (.str (Str.ofString "abcdefghijklmnopqrstuvwxyz"))).map PV.bl = _
  have e : pHasB (.str ⟨#[c]⟩) (.str (Str.ofString "abcdefghijklmnopqrstuvwxyz")) = some (decide (c ∈ (Str.ofString "abcdefghijklmnopqrstuvwxyz").cps.toList)) := rfl
  rw [e, letters_cps]
  show some (PV.bl (decide (c ∈ lettersL))) = _
  rw [mem_letters]
theorem law_is_word_ok {w : Str} (h : w.length ≤ 50000) : f__law_is_word [.str w] = some (.ret (.bl (wB w))) := by
  have hz : (tx w).length ≤ sizeLine := by rw [szL]; show w.length ≤ _; omega
  refine runP_eq ?_
  unfold wB
  by_cases h1 : 1 ≤ w.length
  · by_cases h2 : w.length ≤ 8
    · have g1 : (1 : Int) ≤ w.length := by omega
      have g2 : (w.length : Int) ≤ 8 := by omega
      simp [m__law_is_word, N__law_is_word, stoP, h1, h2, g1, g2, charsP_tx]
      refine ⟨by simpa using hz, ?_⟩
      have := lcGo_mapf (vs := [1]) (g := gN 1) (mt := mYes) (me := mBin pHas (mVar 1) (mK (.str "abcdefghijklmnopqrstuvwxyz"))) (S := [some (.p (.str w)), none]) (tx w) (fun c => .str ⟨#[c]⟩) (fun _ => true) (fun c => .bl (isLet c)) (fun c _ => by
        refine ⟨_, by simp; rfl, ?_⟩
        simp [pHas_letter])
      refine lcE_of this ?_
      simp only [filter_tt]
      simp [pAll_map]
    · have g1 : (1 : Int) ≤ w.length := by omega
      have g2 : ¬ (w.length : Int) ≤ 8 := by omega
      simp [m__law_is_word, N__law_is_word, stoP, h2, g1, g2]
  · have g1 : ¬ (1 : Int) ≤ w.length := by omega
    simp [m__law_is_word, N__law_is_word, stoP, h1, g1]
def oP : Option (Str × Nat) → PV
  | none => .non
  | some p => prP p
theorem cut_len2 {c : Nat} {l : List Nat} (h : c ∈ l) : 2 ≤ (cutAt c l).length := by
  obtain ⟨p, q, e, hp⟩ := first_at h
  rw [e, cutAt_some hp, List.length_cons]
  have := List.length_pos_iff.mpr (cutAt_ne c q)
  omega
theorem one_free {q : List Nat} (h : 58 ∈ q) : SX.S q ≠ ("1" : Str) ∧ SX.S q ≠ ("2" : Str) := by
  have k : ∀ s : Str, 58 ∉ tx s → SX.S q ≠ s := fun s hs e => hs (by rw [← e]; exact h)
  exact ⟨k _ (by decide +kernel), k _ (by decide +kernel)⟩
theorem pHas_12 (q : Str) : pHas (.str q) (.tup [.str "1", .str "2"]) = some (.bl (decide (q = "1" ∨ q = "2"))) := by
  have := pHas_t (a := q) (ws := ["1", "2"])
  simpa using this
theorem idx_1 : idxB [.str "0", .str "1", .str "2"] (.str "1") = some (.int 1) := by
  have z := idxB_strs (ws := ["0", "1", "2"]) (w := "1") (by simp)
  have e : List.idxOf ("1" : Str) ["0", "1", "2"] = 1 := by decide +kernel
  rw [e] at z
  exact z
theorem idx_2 : idxB [.str "0", .str "1", .str "2"] (.str "2") = some (.int 2) := by
  have z := idxB_strs (ws := ["0", "1", "2"]) (w := "2") (by simp)
  have e : List.idxOf ("2" : Str) ["0", "1", "2"] = 2 := by decide +kernel
  rw [e] at z
  exact z
theorem pair_of_ok {w : Str} (h : w.length ≤ 50000) : f__law_pair_of [.str w] = some (.ret (oP (pairO w))) := by
  have es := pSplit_cx (s := w) (by omega)
  refine runP_eq ?_
  unfold pairO
  by_cases hc : 58 ∈ tx w
  · obtain ⟨p, q, e, hp⟩ := first_at hc
    have ep := parts_s e hp
    have ea : pa w = SX.S p := by unfold pa; rw [ep]
    have em : pm w = ":" := by unfold pm; rw [ep]
    have eq : pq w = SX.S q := by unfold pq; rw [ep]
    have hl : (tx w).length = w.length := rfl
    rw [e, List.length_append, List.length_cons] at hl
    have ew := law_is_word_ok (w := SX.S p) (by rw [SX.S_len]; omega)
    rw [ea, em, eq]
    rw [cx_s e hp] at es
    by_cases hq : 58 ∈ q
    · have h2 := cut_len2 hq
      have h3 : (2 : Int) < ((cutAt 58 q).length : Int) + 1 := by omega
      obtain ⟨n1, n2⟩ := one_free hq
      simp [m__law_pair_of, N__law_pair_of, stoP, isStr, es, h3, oP, co_ne, n1, n2]
    · rw [cutAt_none hq] at es
      by_cases h1 : wB (SX.S p) = true
      · by_cases g1 : SX.S q = ("1" : Str)
        · simp [m__law_pair_of, N__law_pair_of, stoP, isStr, es, ew, h1, co_ne, g1, pHas_12, idx_1, oP, prP]
        · by_cases g2 : SX.S q = ("2" : Str)
          · simp [m__law_pair_of, N__law_pair_of, stoP, isStr, es, ew, h1, co_ne, g2, pHas_12, idx_2, oP, prP]
          · simp [m__law_pair_of, N__law_pair_of, stoP, isStr, es, ew, h1, co_ne, g1, g2, pHas_12, oP]
      · have h1' : wB (SX.S p) = false := by simpa using h1
        simp [m__law_pair_of, N__law_pair_of, stoP, isStr, es, ew, h1', oP]
  · have ep := parts_n hc
    have ea : pa w = w := by unfold pa; rw [ep]
    have em : pm w = "" := by unfold pm; rw [ep]
    have ew := law_is_word_ok h
    rw [ea, em]
    rw [cx_n hc] at es
    by_cases h1 : wB w = true
    · simp [m__law_pair_of, N__law_pair_of, stoP, isStr, es, ew, h1, oP, prP]
    · have h1' : wB w = false := by simpa using h1
      simp [m__law_pair_of, N__law_pair_of, stoP, isStr, es, ew, h1', oP]
/-! none among them -/
theorem dat_oP (o : Option (Str × Nat)) : PV.isD (oP o) = true ∧ (PV.dat (oP o)).depth ≤ 1 ∧ PyData.eqv (PV.dat (oP o)) .none = o.isNone := by
  cases o with
  | none => exact ⟨rfl, by decide, by decide⟩
  | some p =>
    refine ⟨rfl, ?_, ?_⟩
    · show (PyData.tuple [.str p.1, .int p.2]).depth ≤ 1
      simp [PyData.depth, PyData.depthAll]
    · show PyData.eqv (PyData.tuple [.str p.1, .int p.2]) .none = false
      simp [PyData.eqv]
theorem isDL_oP : ∀ os : List (Option (Str × Nat)), PV.isDL (os.map oP) = true
  | [] => rfl
  | o :: os => by
    show (PV.isD (oP o) && PV.isDL (os.map oP)) = true
    rw [(dat_oP o).1, isDL_oP os]
    rfl
theorem datL_oP : ∀ os : List (Option (Str × Nat)), PV.datL (os.map oP) = os.map fun o => PV.dat (oP o)
  | [] => rfl
  | o :: os => by
    show PV.dat (oP o) :: PV.datL (os.map oP) = _
    rw [datL_oP os]
    rfl
theorem dat_non : PV.dat .non = .none := rfl
theorem depth_none : PyData.depth .none = 0 := by simp [PyData.depth]
theorem pHas_none (os : List (Option (Str × Nat))) : pHas .non (.lst (os.map oP)) = some (.bl (os.any Option.isNone)) := by
  show (pInB .non (.lst (os.map oP))).map PV.bl = _
  have e : pInB .non (.lst (os.map oP)) = some (os.any Option.isNone) := by
    unfold pInB
    dsimp only
    rw [isDL_oP, dat_non, depth_none, Nat.min_zero, datL_oP, if_pos (by rfl), List.any_map]
    congr 1
    congr 1
    funext o
    exact (dat_oP o).2.2
  rw [e]
  rfl
theorem idx_none : ∀ (os : List (Option (Str × Nat))), os.any Option.isNone = true → idxB (os.map oP) .non = some (.int ((os.map Option.isNone).idxOf true : Nat)) := fun os h => by
  unfold idxB
  have e : eqsD (PV.datL (os.map oP)) .none = os.map Option.isNone := by
    rw [datL_oP]
    unfold eqsD
    rw [List.map_map]
    exact List.map_congr_left fun o _ => (dat_oP o).2.2
  have e4 : (os.map Option.isNone).contains true = true := by
    rw [List.contains_iff_mem, List.mem_map]
    obtain ⟨o, ho, hn⟩ := List.any_eq_true.mp h
    exact ⟨o, ho, hn⟩
  rw [dat_non, depth_none, Nat.min_zero, e, isDL_oP, e4]
  simp [PV.isD]
/-- the first that tells none -/
theorem prs_first : ∀ (ws : List Str) (k : Nat), prs k ws = if (ws.map pairO).any Option.isNone = true then .inl (k + ((ws.map pairO).map Option.isNone).idxOf true) else .inr (ws.filterMap pairO)
  | [], k => rfl
  | w :: ws, k => by
    unfold prs
    rw [prs_first ws (k + 1)]
    cases hp : pairO w with
    | none => simp [hp]
    | some p =>
      simp only [List.map_cons, hp, List.any_cons, Option.isNone_some, Bool.false_or, List.filterMap_cons]
      by_cases ha : (ws.map pairO).any Option.isNone = true
      · simp only [ha, if_true]
        rw [List.idxOf_cons]
        simp
        omega
      · have ha' : (ws.map pairO).any Option.isNone = false := by simpa using ha
        simp [ha']
theorem all_some : ∀ {ws : List Str}, (ws.map pairO).any Option.isNone = false → (ws.map pairO).map oP = (ws.filterMap pairO).map prP
  | [], _ => rfl
  | w :: ws, h => by
    simp only [List.map_cons, List.any_cons, Bool.or_eq_false_iff] at h
    cases hp : pairO w with
    | none => rw [hp] at h; simp at h
    | some p =>
      rw [List.map_cons, List.map_cons, hp, all_some h.2, List.filterMap_cons, hp]
      rfl
def lawR : (Nat × Nat) ⊕ List (List (Str × Nat)) → PV
  | .inl e => .tup [.str "BadLine", .int e.1, .int e.2]
  | .inr rs => .tup [.str "told", .tup (rs.map rdP)]
def lrI (ts : List PV) (ys : List PV) (S : Sto) : Prop := ∃ (k : Nat) (rs : List (List (Str × Nat))) (a2 a3 a4 : Option PV), ys = (rangeP 0 ts.length).drop k ∧ k ≤ ts.length ∧ k ≤ 6 ∧ rs.length = k ∧
  S = [some (.p (.lst ts)), some (.o (.lst (rs.map rdP))), a2.map SV.p, a3.map SV.p, a4.map SV.p, none] ∧ rdW 0 ts = cmb rs (rdW k (ts.drop k))
end A07
set_option Elab.async false
set_option linter.all false
set_option maxRecDepth 100000
set_option maxHeartbeats 4000000
namespace A07
open PySem L2 Kp
variable {ts : List PV}
theorem rangeP_drop {n k : Nat} (h : k < n) : (rangeP 0 n).drop k = .int k :: (rangeP 0 n).drop (k + 1) := by
  have hl : k < (rangeP 0 n).length := by rw [rangeP_len]; exact h
  rw [List.drop_eq_getElem_cons hl]
  congr 1
  have e := rangeP_get (lo := 0) (n := n) (i := k)
  rw [if_pos h, List.getElem?_eq_getElem hl] at e
  have e := Option.some.inj e
  rw [e]
  simp
theorem law_read_ok (h : Okl ts) : f__law_read [.lst ts] = some (.ret (lawR (rdWork ts))) := by
  have hl := h.l
  refine runP_eq ?_
  by_cases hn : ts = []
  · subst hn
    simp [m__law_read, N__law_read, stoP]
    rfl
  have hne : ts.length ≠ 0 := by simpa using hn
  have er : rdWork ts = rdW 0 ts := by unfold rdWork; rw [if_neg hn]
  have hne' : ¬ (ts.length : Int) = 0 := by omega
  simp [m__law_read, N__law_read, stoP, hn]
  refine ⟨inR_of (by omega) (by omega), ?_⟩
  refine wq_of_wr (wr_loop (lrI ts) ?_ ?_ ⟨0, [], none, none, none, rfl, by omega, by omega, rfl, rfl, ?_⟩)
  · rintro S ⟨k, rs, a2, a3, a4, hy, hk, h6, hrs, rfl, hw⟩
    have hk2 : ts.length ≤ k := by
      have e := congrArg List.length hy
      rw [List.length_nil, List.length_drop, rangeP_len] at e
      omega
    have ed : ts.drop k = [] := List.drop_of_length_le hk2
    have ew : ∀ k, rdW k [] = .inr [] := fun k => by unfold rdW; rfl
    rw [er, hw, ed, ew]
    simp [cmb, lawR]
  · rintro y ys S ⟨k, rs, a2, a3, a4, hy, hk, h6, hrs, rfl, hw⟩
    have hk2 : k < ts.length := by
      have e := congrArg List.length hy
      rw [List.length_cons, List.length_drop, rangeP_len] at e
      omega
    rw [rangeP_drop hk2] at hy
    injection hy with e1 e2
    subst e1
    have et : ts[k]? = some ts[k] := List.getElem?_eq_getElem hk2
    have hT := h.t _ (List.getElem_mem hk2)
    rw [er, hw]
    refine ⟨_, by simp; rfl, ?_⟩
    by_cases k6 : k = 6
    · subst k6
      have e6 : rdW 6 (ts.drop 6) = .inl (6, 0) := by rw [List.drop_eq_getElem_cons hk2]; rfl
      simp [e6, cmb, lawR]
    · have k6' : ¬ (k : Int) = 6 := by omega
      have es := rdW_step k6 et
      rw [es]
      cases hc : ts[k] with
      | str s =>
        rw [hc] at hT et
        have hs : s.length ≤ 50000 := of_decide_eq_true hT
        have e1 := pSplit_sx (s := s) (by omega)
        have hx := sx_ne s
        have hxl := sx_len s
        have hm : ∀ w ∈ sx s, w.length ≤ 50000 := fun w hw => by have := sx_mem hw; omega
        have er0 : rdT (.str s) = rdl (sx s) := rfl
        rw [er0]
        cases hws : sx s with
        | nil => exact absurd hws hx
        | cons w ws =>
          rw [hws] at e1 hxl hm
          rw [List.length_cons] at hxl
          simp [k6', atN, et, isStr, e1]
          by_cases hr : w = "read"
          · subst hr
            have hS : pSl (.lst (.str "read" :: ws.map PV.str)) (some 1) none = some (.lst (ws.map PV.str)) := by
              rw [pSl_lst, show (some 1 : Option Int) = some ((1 : Nat) : Int) from rfl, cutL_from]
              rfl
            simp [hS, szL, -pSl_lst]
            refine ⟨by omega, ?_⟩
            have := lcGo_mapf (vs := [5]) (g := gN 5) (mt := mYes) (me := mCall f__law_pair_of [mVar 5]) (S := [some (.p (.lst ts)), some (.o (.lst (rs.map rdP))), some (.p (.int k)), some (.p (.lst (.str "read" :: ws.map PV.str))), a4.map SV.p, none]) ws PV.str (fun _ => true) (fun w => oP (pairO w)) (fun w hw => by
              refine ⟨_, by simp; rfl, ?_⟩
              simp [pair_of_ok (hm w (List.mem_cons_of_mem _ hw))])
            refine lcE_of this ?_
            simp only [filter_tt]
            have em : ws.map (fun w => oP (pairO w)) = (ws.map pairO).map oP := by rw [List.map_map]; rfl
            rw [em]
            have ep := prs_first ws 1
            have eo := @all_some ws
            generalize ws.map pairO = os at ep eo ⊢
            by_cases ha : os.any Option.isNone = true
            · rw [if_pos ha] at ep
              have ei := idx_none os ha
              have er2 : rdl ("read" :: ws) = prs 1 ws := by simp [rdl]
              simp [pHas_none, ha, ei, er2, ep, cmb, lawR]
            · rw [if_neg ha] at ep
              have ha' : os.any Option.isNone = false := by
                cases q : os.any Option.isNone with
                | true => exact absurd q ha
                | false => rfl
              have eo := eo ha'
              have er2 : rdl ("read" :: ws) = prs 1 ws := by simp [rdl]
              simp [pHas_none, ha', er2, ep, szL]
              refine ⟨by omega, k + 1, rs ++ [ws.filterMap pairO], some (.int k), some (.lst (.str "read" :: ws.map PV.str)), some (.lst (os.map oP)), e2, by omega, by omega, by simp [hrs], by simp [eo, rdP], ?_⟩
              rw [hw, es, hc, er0, hws, er2, ep]
              exact cmb_cmb _ _ _
          · simp [hr, rdl, cmb, lawR]
      | non => 
        rw [hc] at et
        simp [k6', atN, et, rdT, lnw, cmb, lawR]
      | bl b => 
        rw [hc] at et
        simp [k6', atN, et, rdT, lnw, cmb, lawR]
      | int b => 
        rw [hc] at et
        simp [k6', atN, et, rdT, lnw, cmb, lawR]
      | tup b => 
        rw [hc] at et
        simp [k6', atN, et, rdT, lnw, cmb, lawR]
      | lst b => 
        rw [hc] at et
        simp [k6', atN, et, rdT, lnw, cmb, lawR]
      | _ => rw [hc] at hT; cases hT
  · rw [List.drop_zero]
    cases rdW 0 ts <;> rfl
end A07
set_option Elab.async false
set_option linter.all false
set_option maxRecDepth 100000
set_option maxHeartbeats 4000000
namespace Kp
open PySem L2
@[simp] theorem e_mCallE {S : Sto} {b : Option SV} {i : Nat} {a d : Addr} {c : Nat} {g : Addr → Addr → Nat → List (Str × PV) → Option PV} {P : Kt PV} : wq (mCallE i a d c g) (b :: S) P ↔ wq (xoAt i a d c) (b :: S) fun fs S1 => exS (g a d c fs) S1 P := by
  unfold mCallE
  simp only [wq_bnd, wq_lift]
  rfl
end Kp
namespace A07
open PySem L2 Kp
/-! ### the same, with numbers and lists -/
def giv : Nat → PV → Bool
  | _, .non => true
  | _, .int _ => true
  | _, .str _ => true
  | d + 1, .tup xs => decide (xs.length ≤ 60000) && xs.all (giv d)
  | _, _ => false
theorem giv_seq {d : Nat} {xs : List PV} (h : (decide (xs.length ≤ 60000) && xs.all (giv d)) = true) : xs.length ≤ 60000 ∧ ∀ x ∈ xs, giv d x = true := by
  rw [Bool.and_eq_true] at h
  exact ⟨of_decide_eq_true h.1, List.all_eq_true.mp h.2⟩
theorem giv_tup {d : Nat} {xs : List PV} (hl : xs.length ≤ 60000) (h : ∀ x ∈ xs, giv d x = true) : giv (d + 1) (.tup xs) = true := by
  show (decide (xs.length ≤ 60000) && xs.all (giv d)) = true
  rw [decide_eq_true hl, Bool.true_and]
  exact List.all_eq_true.mpr h
theorem giv_s {d : Nat} {s : Str} : giv d (.str s) = true := by cases d <;> rfl
theorem giv_n {d : Nat} : giv d .non = true := by cases d <;> rfl
theorem giv_i {d : Nat} {i : Int} : giv d (.int i) = true := by cases d <;> rfl
theorem same_di : ∀ (d : Nat) (x : PV), giv d x = true → fd__law_same (d + 1) [x, x] = some (.ret (.bl true)) := by
  intro d
  induction d with
  | zero =>
    intro x h
    refine runP_eq ?_
    cases x <;> first | (cases h; done) | simp [m__law_same, N__law_same, stoP]
  | succ d ih =>
    intro x h
    refine runP_eq ?_
    cases x with
    | tup xs =>
      obtain ⟨hl, hx⟩ := giv_seq h
      simp [m__law_same, N__law_same, stoP, szL, rangeP_len]
      refine ⟨inR_of (by omega) (by omega), by omega, ?_⟩
      have := lcGo_mapf (vs := [2]) (g := gN 2) (mt := mYes) (me := mCall (fd__law_same (d + 1)) [mIxV 0 (mVar 2), mIxV 1 (mVar 2)]) (S := [some (.p (.tup xs)), some (.p (.tup xs)), none]) (List.range xs.length) (fun i : Nat => PV.int (0 + (i : Int))) (fun _ => true) (fun _ => PV.bl true) fun i hi => by
        have hi' := List.mem_range.mp hi
        have q : xs[i]? = some xs[i] := List.getElem?_eq_getElem hi'
        refine ⟨_, by simp; rfl, ?_⟩
        simp [atN, q, ih xs[i] (hx _ (List.getElem_mem hi'))]
      refine lcE_of this ?_
      have ea : pAll [.lst (((List.range xs.length).filter fun _ => true).map fun _ => PV.bl true)] = some (.bl true) := pAll_tt fun z hz => by
        obtain ⟨_, _, rfl⟩ := map_mem_pv hz
        rfl
      simp only [filter_tt] at ea
      simp [ea]
    | _ => first | (cases h; done) | simp [m__law_same, N__law_same, stoP]
theorem same_oki {x : PV} (h : giv 7 x = true) : f__law_same [x, x] = some (.ret (.bl true)) := same_di 7 x h
theorem law_error_ok (a d : Addr) (n k : Nat) : f__law_error a d 5 (badF n k) = some (.tup [.str "BadLine", .int n, .int k]) := by
  have e : runP N__law_error.length (m__law_error a d 5) [.xo a d 5 (badF n k)] = some (.ret (.tup [.str "BadLine", .int n, .int k])) := by
    refine runP_eq ?_
    simp [m__law_error, N__law_error, stoP, badF, sub_BadLine, sub_ValueError, sub_BadWork, sub_BadReading]
  show retE (runP N__law_error.length (m__law_error a d 5) [.xo a d 5 (badF n k)]) = _
  rw [e]
  rfl
variable {ts : List PV}
theorem asked_work_ok {x : PV} (h : Okl ts) (hx : pList [x] = some (.lst ts)) (hg : giv 7 (lawR (rdWork ts)) = true) : f__law_asked_work [x, lawR (rdWork ts)] = some (.ret (.bl true)) := by
  have er := read_work_ok h hx
  have es := same_oki hg
  refine runP_eq ?_
  simp [m__law_asked_work, N__law_asked_work, stoP]
  refine wq_tryR ?_
  cases e : rdWork ts with
  | inl ef =>
    rw [e] at er es
    simp [er, workR, bad]
    have es' : f__law_same [.tup [.str "BadLine", .int ef.1, .int ef.2], .tup [.str "BadLine", .int ef.1, .int ef.2]] = some (.ret (.bl true)) := es
    refine ⟨by simp [sub_AcrossError], .nx, [some (.p x), some (.p (lawR (.inl ef))), some (.p (.tup [.str "BadLine", .int ef.1, .int ef.2])), none], fun a d => ?_, ?_⟩
    · simp [law_error_ok]
    · simp [lawR, es']
  | inr rs =>
    rw [e] at er es
    have es' : f__law_same [.tup [.str "told", .tup (rs.map rdP)], .tup [.str "told", .tup (rs.map rdP)]] = some (.ret (.bl true)) := es
    simp [er, workR, lawR, es']
theorem rdWork_one (t : PV) : rdWork [t] = match rdT t with
    | .inl j => .inl (0, j)
    | .inr r => .inr [r] := by
  unfold rdWork
  rw [if_neg (by simp)]
  unfold rdW
  rw [if_neg (by decide)]
  cases rdT t <;> rfl
/-- what is due of one line -/
def lineR (t : PV) : PV := match rdT t with
  | .inl j => .tup [.str "BadLine", .int 0, .int j]
  | .inr r => .tup [.str "told", rdP r]
theorem asked_line_ok {t : PV} (h : okT t = true) (hg : giv 7 (lineR t) = true) : f__law_asked_line [t] = some (.ret (.bl true)) := by
  have er := read_reading_ok h
  have el := law_read_ok (okl_one h)
  rw [rdWork_one] at el
  have es := same_oki hg
  refine runP_eq ?_
  unfold lineR at es
  cases e : rdT t with
  | inl j =>
    rw [e] at er el es
    have el' : f__law_read [.lst [t]] = some (.ret (.tup [.str "BadLine", .int 0, .int j])) := el
    have n1 : ¬ (("BadLine" : Str) = "told") := by decide +kernel
    simp [m__law_asked_line, N__law_asked_line, stoP, el']
    refine wq_tryR ?_
    simp [er, rowR, bad]
    refine ⟨by simp [sub_AcrossError], .nx, [some (.p t), some (.p (.tup [.str "BadLine", .int 0, .int j])), some (.p (.tup [.str "BadLine", .int 0, .int j])), none], fun a d => ?_, ?_⟩
    · have := law_error_ok a d 0 j
      simp at this
      simp [this]
    · simp at es
      simp [es]
  | inr r =>
    rw [e] at er el es
    have el' : f__law_read [.lst [t]] = some (.ret (.tup [.str "told", .tup [rdP r]])) := el
    simp [m__law_asked_line, N__law_asked_line, stoP, el']
    refine wq_tryR ?_
    simp [er, rowR]
    simp [es]
end A07
set_option Elab.async false
set_option linter.all false
set_option maxRecDepth 100000
set_option maxHeartbeats 4000000
namespace A07
open PySem L2 Kp
variable {e0 : PV}
/-! ### readings that are drawn -/
def gR (r : List (Str × Nat)) : Prop := r.length ≤ 100 ∧ ∀ p ∈ r, lw p.1 ∧ p.2 < 3
theorem map_of {β : Type} {f : β → PV} {q : β → Prop} : ∀ {zs : List PV}, (∀ z ∈ zs, ∃ b, z = f b ∧ q b) → ∃ bs : List β, zs = bs.map f ∧ ∀ b ∈ bs, q b
  | [], _ => ⟨[], rfl, by simp⟩
  | z :: zs, h => by
    obtain ⟨b, rfl, hb⟩ := h z List.mem_cons_self
    obtain ⟨bs, rfl, hbs⟩ := map_of (zs := zs) fun z hz => h z (List.mem_cons_of_mem _ hz)
    exact ⟨b :: bs, rfl, fun c hc => by
      rcases List.mem_cons.mp hc with rfl | hc
      · exact hb
      · exact hbs c hc⟩
theorem wide_reading_ok (hf : FrE e0) {x : PV} {ws : List Str} (h : Src e0 x) (hn : ws ≠ []) (hn2 : ws.length < 1000) (hp : ∀ w ∈ ws, lw w) : ∃ x' y, f__law_wide_reading x [.lst (ws.map .str)] = some (x', .ret y) ∧ (Src e0 x' ∧ ∃ r, y = rdP r ∧ gR r) := by
  obtain ⟨x1, y1, e1, s1, rfl⟩ := next_ok hf h
  obtain ⟨x2, y2, e2, s2, m, rfl, hm⟩ := pick_ok s1 (n := 9) (by decide) (by decide)
  obtain ⟨x3, y3, e3, s3, b, rfl⟩ := one_in_ok s2 (n := 12) (by decide) (by decide)
  have go : ∀ (x : PV) (k : Nat), Src e0 x → k ≤ 100 → lcE (lcGo [3] (gN 3) mYes (mTup [mCallI 0 f__law_one_of [mVar 1], mCallI 0 f__law_pick [mK (.int 3)]]) (rangeP 0 k) [some (.i x), some (.p (.lst (ws.map .str))), some (.p (.int k)), none]) fun zs S => ∃ x', zs.length = k ∧ S = [some (.i x'), some (.p (.lst (ws.map .str))), some (.p (.int k)), none] ∧ Src e0 x' ∧ ∃ r, zs = r.map prP ∧ gR r := by
    intro x k hx hk
    refine lcE_draw (fun x => [some (.i x), some (.p (.lst (ws.map .str))), some (.p (.int k)), none]) (fun _ => True) (fun z => ∃ p, z = prP p ∧ (lw p.1 ∧ p.2 < 3)) hx (fun _ _ => trivial) (fun x y hx _ => ?_) fun zs x2 hl2 hz s2 => ?_
    · obtain ⟨x2, w, e2, hs2, hw⟩ := one_of_s (ws := ws) hx hn hn2
      obtain ⟨x3, y3, e3, s3, j, rfl, hj⟩ := pick_ok hs2 (n := 3) (by decide) (by decide)
      refine ⟨_, by simp; rfl, ?_⟩
      simp [e2, e3]
      exact ⟨⟨w, j, rfl, hp w hw, by omega⟩, s3⟩
    · obtain ⟨r, rfl, hr⟩ := map_of hz
      rw [rangeP_len] at hl2
      rw [List.length_map] at hl2
      refine ⟨x2, by rw [List.length_map]; exact hl2, rfl, s2, r, rfl, by omega, hr⟩
  refine runI_wq ?_
  simp [m__law_wide_reading, N__law_wide_reading, stoP, e1, e2, e3]
  cases b with
  | false =>
    simp
    refine ⟨inR_of (by omega) (by omega), by simp [szL, rangeP_len]; try omega, ?_⟩
    obtain ⟨zs, S, e, x', hl, rfl, hx', r, rfl, hr⟩ := go x3 m s3 (by omega)
    refine lcE_of e ?_
    simp [szL]
    exact ⟨hx', r, rfl, hr⟩
  | true =>
    obtain ⟨x4, y4, e4, s4, j, rfl, hj⟩ := pick_ok s3 (n := 43) (by decide) (by decide)
    obtain ⟨k, ej, hk⟩ : ∃ k : Nat, (58 : Int) + (j : Int) = (k : Int) ∧ k ≤ 100 := ⟨58 + j, by omega, by omega⟩
    simp [e4, ej]
    refine ⟨inR_of (by omega) (by omega), by simp [szL, rangeP_len]; try omega, ?_⟩
    obtain ⟨zs, S, e, x', hl, rfl, hx', r, rfl, hr⟩ := go x4 k s4 hk
    refine lcE_of e ?_
    simp [szL]
    exact ⟨hx', r, rfl, hr⟩
/-! ### a reading's line -/
def wP (p : Str × Nat) : Str := p.1 ++ (if p.2 = 0 then "" else if p.2 = 1 then ":1" else ":2")
def rws (r : List (Str × Nat)) : List Str := ("read" : Str) :: r.map wP
def rline (r : List (Str × Nat)) : Str := Ln (rws r)
theorem tx_read : tx "read" = [114, 101, 97, 100] := by decide +kernel
theorem tx_c1 : tx ":1" = [58, 49] := by decide +kernel
theorem tx_c2 : tx ":2" = [58, 50] := by decide +kernel
theorem tx_e : tx "" = [] := by decide +kernel
theorem S_1 : SX.S [49] = ("1" : Str) := by decide +kernel
theorem S_2 : SX.S [50] = ("2" : Str) := by decide +kernel
theorem app_e (s : Str) : s ++ ("" : Str) = s := by
  apply tx_inj
  rw [tx_append, tx_e, List.append_nil]
theorem lw_no {w : Str} (h : lw w) {c : Nat} (hc : c < 97) : c ∉ tx w := fun q => by
  have := h.2.2 c q
  simp [isLet] at this
  omega
theorem tx_wP (p : Str × Nat) : tx (wP p) = tx p.1 ++ (if p.2 = 0 then [] else if p.2 = 1 then [58, 49] else [58, 50]) := by
  unfold wP
  rw [tx_append]
  congr 1
  split
  · exact tx_e
  · split
    · exact tx_c1
    · exact tx_c2
theorem wP_len {p : Str × Nat} (h : lw p.1) : (wP p).length ≤ 10 := by
  have := congrArg List.length (tx_wP p)
  rw [List.length_append] at this
  have h2 := h.2.1
  have e : (tx (wP p)).length = (wP p).length := rfl
  rw [e] at this
  have : (if p.2 = 0 then ([] : List Nat) else if p.2 = 1 then [58, 49] else [58, 50]).length ≤ 2 := by
    split
    · simp
    · split <;> simp
  omega
theorem wP_sp {p : Str × Nat} (h : lw p.1) : 32 ∉ tx (wP p) := fun q => by
  rw [tx_wP] at q
  rcases List.mem_append.mp q with q | q
  · exact lw_no h (by decide) q
  · split at q
    · cases q
    · split at q <;> simp at q
theorem pairO_wP {p : Str × Nat} (h : lw p.1) (h3 : p.2 < 3) : pairO (wP p) = some p := by
  obtain ⟨w, n⟩ := p
  have hw : wB w = true := wB_of h
  have h58 : 58 ∉ tx w := lw_no h (by decide)
  have ew : SX.S (tx w) = w := tx_S w
  unfold pairO pa pm pq
  have q : n = 0 ∨ n = 1 ∨ n = 2 := by
    have : n < 3 := h3
    omega
  rcases q with rfl | rfl | rfl
  · have e : wP (w, 0) = w := app_e w
    rw [e, parts_n h58]
    simp [hw]
  · have e := tx_wP (w, 1)
    rw [parts_s (s := wP (w, 1)) (p := tx w) (q := [49]) e h58]
    simp [hw, ew, S_1, co_ne]
  · have e := tx_wP (w, 2)
    rw [parts_s (s := wP (w, 2)) (p := tx w) (q := [50]) e h58]
    have n12 : ¬ (("2" : Str) = "1") := by decide +kernel
    simp [hw, ew, S_2, co_ne, n12]
variable {r : List (Str × Nat)}
theorem rws_sp (h : gR r) : ∀ w ∈ rws r, 32 ∉ tx w := fun w hw => by
  rcases List.mem_cons.mp hw with rfl | hw
  · rw [tx_read]
    decide
  · obtain ⟨p, hp, rfl⟩ := List.mem_map.mp hw
    exact wP_sp (h.2 p hp).1
theorem sum_le {ws : List Str} {k : Nat} : (∀ w ∈ ws, w.length ≤ k) → (ws.map (·.length)).sum ≤ k * ws.length := by
  induction ws with
  | nil => simp
  | cons w ws ih =>
    intro h
    have h1 := h w List.mem_cons_self
    have h2 := ih fun x hx => h x (List.mem_cons_of_mem _ hx)
    rw [List.map_cons, List.sum_cons, List.length_cons, Nat.mul_succ]
    omega
theorem rws_tot (h : gR r) : tot (rws r) ≤ 1111 := by
  have hl : (rws r).length ≤ 101 := by
    unfold rws
    rw [List.length_cons, List.length_map]
    have := h.1
    omega
  have hs : ((rws r).map (·.length)).sum ≤ 10 * (rws r).length := sum_le fun w hw => by
    rcases List.mem_cons.mp hw with rfl | hw
    · have : (tx "read").length = Str.length "read" := rfl
      rw [tx_read] at this
      exact Nat.le_trans (Nat.le_of_eq this.symm) (by decide)
    · obtain ⟨p, hp, rfl⟩ := List.mem_map.mp hw
      exact wP_len (h.2 p hp).1
  unfold tot
  omega
theorem rline_len (h : gR r) : (rline r).length ≤ 1111 := Nat.le_trans (ln_tot _) (rws_tot h)
theorem sx_rline (h : gR r) : sx (rline r) = rws r := sx_ln (by unfold rws; simp) (rws_sp h)
theorem prs_wP : ∀ {r : List (Str × Nat)} (k : Nat), (∀ p ∈ r, lw p.1 ∧ p.2 < 3) → prs k (r.map wP) = .inr r
  | [], _, _ => rfl
  | p :: r, k, h => by
    have hp := h p List.mem_cons_self
    have ih := prs_wP (r := r) (k + 1) fun q hq => h q (List.mem_cons_of_mem _ hq)
    rw [List.map_cons]
    unfold prs
    rw [pairO_wP hp.1 hp.2]
    dsimp only
    rw [ih]
theorem rdT_rline (h : gR r) : rdT (.str (rline r)) = .inr r := by
  show (match some (sx (rline r)) with | some ws => rdl ws | none => Sum.inl 0) = _
  dsimp only
  rw [sx_rline h]
  unfold rws rdl
  dsimp only
  rw [if_pos rfl]
  exact prs_wP 1 h.2
end A07
set_option Elab.async false
set_option linter.all false
set_option maxRecDepth 100000
set_option maxHeartbeats 4000000
namespace A07
open PySem L2 Kp
variable {e0 : PV} {r : List (Str × Nat)}
/-! ### what writes -/
theorem wP_0 (w : Str) : wP (w, 0) = w ++ ("" : Str) := rfl
theorem wP_1 (w : Str) : wP (w, 1) = w ++ (":1" : Str) := rfl
theorem wP_2 (w : Str) : wP (w, 2) = w ++ (":2" : Str) := rfl
theorem n3 {n : Nat} (h : n < 3) : n = 0 ∨ n = 1 ∨ n = 2 := by omega
theorem len_c1 : Str.length (Str.ofString ":1") = 2 := by decide +kernel
theorem len_c2 : Str.length (Str.ofString ":2") = 2 := by decide +kernel
theorem len_e : Str.length (Str.ofString "") = 0 := by decide +kernel
theorem len_c : Str.length (Str.ofString ":") = 1 := by decide +kernel
theorem law_reading_line_ok (h : gR r) : f__law_reading_line [rdP r] = some (.ret (.str (rline r))) := by
  have hl := h.1
  have hj := pJoin_lx (Nat.le_trans (rws_tot h) (by decide))
  refine runP_eq ?_
  simp [m__law_reading_line, N__law_reading_line, stoP, rdP, szL]
  refine ⟨rfl, by omega, lcE_of (lcGo_mapf r prP (fun _ => true) (fun p => .str (wP p)) fun p hp => ⟨_, by simp; rfl, ?_⟩) ?_⟩
  · obtain ⟨w, n⟩ := p
    have hw := (h.2 _ hp).1
    have hw8 : w.length ≤ 8 := lw_len hw
    rcases n3 (h.2 _ hp).2 with rfl | rfl | rfl
    · simp [prP, szL, wP_0, len_append, len_e]
      all_goals try (first | omega | rfl)
    · simp [prP, szL, wP_1, len_append, len_c1]
      all_goals try (first | omega | rfl)
    · simp [prP, szL, wP_2, len_append, len_c2]
      all_goals try (first | omega | rfl)
  · unfold rws at hj
    rw [List.map_cons, List.map_map] at hj
    simp [szL, Function.comp_def] at hj ⊢
    refine ⟨by omega, ?_⟩
    simp [hj, rline, rws]
def wrI (y : PV) (r : List (Str × Nat)) (ys : List PV) (S : Sto) : Prop := ∃ (pre suf : List (Str × Nat)) (o2 o3 : Option PV), r = pre ++ suf ∧ ys = suf.map prP ∧ S = [some (.p y), some (.o (.lst ((rws pre).map .str))), o2.map SV.p, o3.map SV.p]
theorem pStrI_1 : pStrI [.int 1] = some (.str "1") := by
  unfold pStrI
  dsimp only
  rw [if_pos (by decide +kernel)]
  rfl
theorem pStrI_2 : pStrI [.int 2] = some (.str "2") := by
  unfold pStrI
  dsimp only
  rw [if_pos (by decide +kernel)]
  rfl
theorem app_c1 (w : Str) : w ++ (":" : Str) ++ ("1" : Str) = w ++ (":1" : Str) := by
  apply tx_inj
  simp only [tx_append, List.append_assoc]
  rfl
theorem app_c2 (w : Str) : w ++ (":" : Str) ++ ("2" : Str) = w ++ (":2" : Str) := by
  apply tx_inj
  simp only [tx_append, List.append_assoc]
  rfl
theorem len_1 : Str.length (Str.ofString "1") = 1 := by decide +kernel
theorem len_2 : Str.length (Str.ofString "2") = 1 := by decide +kernel
theorem write_reading_ok {y : PV} (h : gR r) (hy : f_deep [y] = some (.ret (rdP r))) : f_write_reading [y] = some (.ret (.str (rline r))) := by
  have hl := h.1
  have hj := pJoin_lx (Nat.le_trans (rws_tot h) (by decide))
  refine runP_eq ?_
  simp [m_write_reading, N_write_reading, stoP, hy, rdP]
  refine wq_loop (wrI y r) ?_ ?_ ⟨[], r, none, none, rfl, rfl, rfl⟩
  · rintro S ⟨pre, suf, o2, o3, e, e2, rfl⟩
    have es : suf = [] := by simpa using e2.symm
    rw [es, List.append_nil] at e
    subst e
    simp [hj, rline]
    rfl
  · rintro z ys S ⟨pre, suf, o2, o3, e, e2, rfl⟩
    cases suf with
    | nil => cases e2
    | cons p suf =>
      rw [List.map_cons] at e2
      cases e2
      have hp := h.2 p (by rw [e]; simp)
      have hpl : pre.length + suf.length + 1 = r.length := by rw [e]; simp; omega
      obtain ⟨w, n⟩ := p
      have hw8 : w.length ≤ 8 := lw_len hp.1
      have fin : wrI y r (suf.map prP) [some (.p y), some (.o (.lst ((rws (pre ++ [(w, n)])).map .str))), some (.p (.str w)), some (.p (.int n))] := ⟨pre ++ [(w, n)], suf, some _, some _, by rw [e]; simp, rfl, rfl⟩
      have er : (rws (pre ++ [(w, n)])).map PV.str = (rws pre).map PV.str ++ [.str (wP (w, n))] := by simp [rws]
      rw [er] at fin
      have hle : ((rws pre).map PV.str).length + 1 ≤ 1000 := by simp [rws]; omega
      refine ⟨_, by simp [prP]; rfl, ?_⟩
      rcases n3 hp.2 with rfl | rfl | rfl
      · have ew : wP (w, 0) = w := app_e w
        rw [ew] at fin
        simp [szL]
        simp at fin hle
        first | exact fin | exact ⟨by omega, fin⟩
      · rw [wP_1, ← app_c1] at fin
        simp [szL, pStrI_1, len_append, len_c, len_1]
        simp at fin hle
        refine ⟨by omega, by omega, ?_⟩
        first | exact fin | exact ⟨by omega, fin⟩
      · rw [wP_2, ← app_c2] at fin
        simp [szL, pStrI_2, len_append, len_c, len_2]
        simp at fin hle
        refine ⟨by omega, by omega, ?_⟩
        first | exact fin | exact ⟨by omega, fin⟩
theorem write_work_ok {y : PV} {rs : List (List (Str × Nat))} (φ : List (Str × Nat) → PV) (hφ : ∀ r ∈ rs, f_deep [φ r] = some (.ret (rdP r))) (hr : ∀ r ∈ rs, gR r) (hl : rs.length ≤ 100) (hy : y = .tup (rs.map φ) ∨ y = .lst (rs.map φ)) : f_write_work [y] = some (.ret (.tup (rs.map fun r => .str (rline r)))) := by
  refine runP_eq ?_
  rcases hy with rfl | rfl
  all_goals
    simp [m_write_work, N_write_work, stoP, szL]
    refine ⟨by omega, lcE_of (lcGo_mapf rs φ (fun _ => true) (fun r => .str (rline r)) fun r hm => ⟨_, by simp; rfl, ?_⟩) ?_⟩
    · simp [write_reading_ok (hr r hm) (hφ r hm)]
      all_goals rfl
    · simp [szL]
      all_goals omega
end A07
set_option Elab.async false
set_option linter.all false
set_option maxRecDepth 100000
set_option maxHeartbeats 4000000
namespace A07
open PySem L2 Kp
variable {e0 : PV}
/-! ### a line that is bent -/
def tlB : M Fl := mSeq (mSet 4 (mLst [mK (.str ""), mK (.str "a:0"), mK (.str "a:3"), mK (.str "a:01"), mK (.str "a:"), mK (.str ":1"), mK (.str "a:1:2"), mK (.str "a:b"), mK (.str "a:+1"), mK (.str "A"), mK (.str "a1"), mK (.str "abcdefghi")])) (mSeq (mSet 4 (mBin pAdd (mVar 4) (mLst [mK (.str "abcdefgh:2"), mK (.str "abcdefghi:1"), mK (.str "*a"), mK (.str "_"), mK (.str "read"), mK (.str "read:1"), mK (.str "a:12"), mK (.str "1"), mK (.str ":"), mK (.str "a::1")]))) (mSeq (mSet 5 (mCallI 0 f__law_one_of [mVar 4])) (mSeq (mSet 6 (mCallI 0 f__law_pick [mK (.int 5)])) (mSeq (mIf (mTest (mBin pEq (mVar 6) (mK (.int 0)))) (mIns 2 (mVar 3) (mVar 5)) (mIf (mTest (mBin pEq (mVar 6) (mK (.int 1)))) (mSetO 2 (mBin pCat (mSl (mVar 2) (mNoB) (mBd (mVar 3))) (mSl (mVar 2) (mBd (mBin pAdd (mVar 3) (mK (.int 1)))) (mNoB)))) (mIf (mTest (mBin pEq (mVar 6) (mK (.int 2)))) (mSetO 2 (mBin pCat (mVar 2) (mLst [mVar 5]))) (mSetO 2 (mBin pCat (mBin pAdd (mSl (mVar 2) (mNoB) (mBd (mVar 3))) (mLst [mVar 5])) (mSl (mVar 2) (mBd (mBin pAdd (mVar 3) (mK (.int 1)))) (mNoB))))))) (mRet (mBinS pJoin (mK (.str " ")) (mVar 2)))))))
def oddL : List Str := ["", "a:0", "a:3", "a:01", "a:", ":1", "a:1:2", "a:b", "a:+1", "A", "a1", "abcdefghi", "abcdefgh:2", "abcdefghi:1", "*a", "_", "read", "read:1", "a:12", "1", ":", "a::1"]
theorem oddL_len : ∀ w ∈ oddL, w.length ≤ 11 := by decide +kernel
theorem tot_take (ws : List Str) (k : Nat) : tot (ws.take k) + tot (ws.drop k) = tot ws := by
  unfold tot
  conv => rhs; rw [← List.take_append_drop k ws]
  rw [List.map_append, List.sum_append, List.length_append]
  omega
theorem tot_app (a b : List Str) : tot (a ++ b) = tot a + tot b := by
  unfold tot
  rw [List.map_append, List.sum_append, List.length_append]
  omega
theorem tot_one (a : Str) : tot [a] = a.length + 1 := by simp [tot]
theorem tot_drop (ws : List Str) (k : Nat) : tot (ws.drop (k + 1)) ≤ tot (ws.drop k) := by
  have h := tot_take (ws.drop k) 1
  rw [List.drop_drop] at h
  omega
def okS (n : Nat) (y : PV) : Prop := ∃ t : Str, y = .str t ∧ t.length ≤ n
theorem join_okS {ws : List Str} {n : Nat} (h : tot ws ≤ n) (hn : n ≤ 100000) {S : Sto} {P : Kt PV} (k : ∀ t : Str, t.length ≤ n → P (.str t) S) : exS (pJoin (.str " ") (.lst (ws.map .str))) S P := by
  rw [pJoin_lx (Nat.le_trans h hn)]
  exact exS_some.mpr (k _ (Nat.le_trans (ln_tot ws) h))
theorem tlB_ok {x : PV} {s : Str} {ws : List Str} {k : Nat} (h : Src e0 x) (ht : tot ws ≤ 40000) (hk : k ≤ ws.length) : wq tlB [some (.i x), some (.p (.str s)), some (.o (.lst (ws.map .str))), some (.p (.int k)), none, none, none] (rtI fun x' y => Src e0 x' ∧ okS (tot ws + 12) y) := by
  have hl : ws.length ≤ tot ws := by unfold tot; omega
  have htk := tot_take ws k
  have hdr := tot_drop ws k
  obtain ⟨x1, w, e1, s1, hw⟩ := one_of_s (ws := oddL) h (by decide) (by decide)
  have hwl := oddL_len w hw
  obtain ⟨x2, y2, e2, s2, j, rfl, hj⟩ := pick_ok s1 (n := 5) (by decide) (by decide)
  have c1 : cutL (ws.map PV.str) none (some (k : Int)) = (ws.take k).map PV.str := by rw [cutL_to, List.map_take]
  have c2 : cutL (ws.map PV.str) (some ((k : Int) + 1)) none = (ws.drop (k + 1)).map PV.str := by rw [List.map_drop]; exact cutL_from _ (k + 1)
  have lt : (ws.take k).length ≤ 40000 := by rw [List.length_take]; omega
  have ld : (ws.drop (k + 1)).length ≤ 40000 := by rw [List.length_drop]; omega
  simp only [oddL, List.map_cons, List.map_nil] at e1
  have q : j = 0 ∨ j = 1 ∨ j = 2 ∨ j = 3 ∨ j = 4 := by omega
  unfold tlB
  rcases q with rfl | rfl | rfl | rfl | rfl
  · simp [e1, e2, szL]
    rw [show (List.take k (ws.map PV.str) ++ PV.str w :: List.drop k (ws.map PV.str)) = (ws.take k ++ w :: ws.drop k).map PV.str from by simp]
    refine ⟨⟨by omega, by omega⟩, rfl, join_okS (n := tot ws + 12) ?_ (by omega) fun t ht => ⟨s2, t, rfl, ht⟩⟩
    rw [tot_app, show w :: ws.drop k = [w] ++ ws.drop k from rfl, tot_app, tot_one]
    omega
  · simp [e1, e2, szL, c1, c2]
    rw [show (List.take k (ws.map PV.str) ++ List.drop (k + 1) (ws.map PV.str)) = (ws.take k ++ ws.drop (k + 1)).map PV.str from by simp]
    refine ⟨by omega, rfl, join_okS (n := tot ws + 12) ?_ (by omega) fun t ht => ⟨s2, t, rfl, ht⟩⟩
    rw [tot_app]
    omega
  · simp [e1, e2, szL, c1, c2]
    rw [show (ws.map PV.str ++ [PV.str w]) = (ws ++ [w]).map PV.str from by simp]
    refine ⟨by omega, rfl, join_okS (n := tot ws + 12) ?_ (by omega) fun t ht => ⟨s2, t, rfl, ht⟩⟩
    rw [tot_app, tot_one]
    omega
  all_goals
    simp [e1, e2, szL, c1, c2]
    rw [show (List.take k (ws.map PV.str) ++ PV.str w :: List.drop (k + 1) (ws.map PV.str)) = (ws.take k ++ w :: ws.drop (k + 1)).map PV.str from by simp]
    refine ⟨by omega, by omega, rfl, join_okS (n := tot ws + 12) ?_ (by omega) fun t ht => ⟨s2, t, rfl, ht⟩⟩
    rw [tot_app, show w :: ws.drop (k + 1) = [w] ++ ws.drop (k + 1) from rfl, tot_app, tot_one]
    omega
theorem bent_line_ok {x : PV} {s : Str} (h : Src e0 x) (hs : s.length ≤ 30000) : ∃ x' y, f__law_bent_line x [.str s] = some (x', .ret y) ∧ (Src e0 x' ∧ okS (s.length + 13) y) := by
  have ht := sx_tot s
  have hl := sx_len s
  have hp := pSplit_sx (s := s) (by omega)
  obtain ⟨x1, y1, e1, s1, j, rfl, hj⟩ := pick_ok h (n := ((sx s).length : Int) + 1) (by omega) (by omega)
  have et : tot (sx s) + 12 = s.length + 13 := by omega
  have go : ∀ (x : PV) (k : Nat), Src e0 x → k ≤ (sx s).length → _ := fun x k hx hk => tlB_ok (x := x) (s := s) (ws := sx s) (k := k) hx (by omega) hk
  rw [et] at go
  refine runI_wq ?_
  change wq (mSeq _ (mSeq _ (mSeq _ tlB))) _ _
  simp only [N__law_bent_line, stoP]
  simp [hp, e1]
  refine ⟨rfl, ?_⟩
  by_cases h9 : (9 : Int) < ((sx s).length : Int)
  · obtain ⟨x2, y2, e2, s2, b, rfl⟩ := one_in_ok s1 (n := 2) (by decide) (by decide)
    simp [h9, e2]
    cases b with
    | false =>
      simp
      exact go x2 j s2 (by omega)
    | true =>
      obtain ⟨x3, y3, e3, s3, i, rfl, hi⟩ := pick_ok s2 (n := 3) (by decide) (by decide)
      obtain ⟨m, em, hm⟩ : ∃ m : Nat, (((sx s).length : Nat) : Int) - (i : Int) = (m : Int) ∧ m ≤ (sx s).length := ⟨(sx s).length - i, by omega, by omega⟩
      simp [e3, em]
      exact go x3 m s3 hm
  · simp [h9]
    exact go x1 j s1 (by omega)
end A07
set_option Elab.async false
set_option linter.all false
set_option maxRecDepth 100000
set_option maxHeartbeats 4000000
namespace A07
open PySem L2 Kp
variable {e0 : PV}
/-! ### rows of lines that are bent -/
def tlBs : M Fl := mSeq (mIf (mTest (mBin pEq (mVar 3) (mK (.int 0)))) (mSeq (mSet 4 (mLst [mK (.str ""), mK (.str " "), mK (.str "read"), mK (.str "read "), mK (.str " read"), mK (.str "reads a"), mK (.str "Read a"), mK (.str "read a"), mK (.str "read a:1"), mK (.str "a")])) (mSeq (mSet 4 (mBin pAdd (mBin pAdd (mVar 4) (mLst [mK .non, mK (.int 0), mK (.bl true), mTup [mK (.str "read"), mK (.str "a")], mLst [mK (.str "read")]])) (mVar 1))) (mRet (mBin pAdd (mBin pAdd (mSl (mVar 1) (mNoB) (mBd (mVar 2))) (mLst [mCallI 0 f__law_one_of [mVar 4]])) (mSl (mVar 1) (mBd (mVar 2)) (mNoB)))))) (mNx)) (mSeq (mIf (mTest (mBin pEq (mVar 3) (mK (.int 1)))) (mRet (mBin pAdd (mSl (mVar 1) (mNoB) (mBd (mVar 2))) (mSl (mVar 1) (mBd (mBin pAdd (mVar 2) (mK (.int 1)))) (mNoB)))) (mNx)) (mSeq (mIf (mTest (mBin pEq (mVar 3) (mK (.int 2)))) (mRet (mSl (mBin pAdd (mVar 1) (mBin pMulL (mLst [mK (.str "read")]) (mK (.int 7)))) (mNoB) (mBd (mK (.int 7))))) (mNx)) (mSeq (mIf (mTest (mBin pEq (mVar 3) (mK (.int 3)))) (mRet (mSl (mVar 1) (mNoB) (mBd (mVar 2)))) (mNx)) (mSeq (mIf (mOr (mTest (mBin pEq (mVar 2) (mCBV pLen 1))) (mNot (mTru (mIsa (ansT noOc "str") (mIxV 1 (mVar 2)))))) (mRet (mVar 1)) (mNx)) (mRet (mBin pAdd (mBin pAdd (mSl (mVar 1) (mNoB) (mBd (mVar 2))) (mLst [mCallI 0 f__law_bent_line [mIxV 1 (mVar 2)]])) (mSl (mVar 1) (mBd (mBin pAdd (mVar 2) (mK (.int 1)))) (mNoB))))))))
def okB (B : Nat) (t : PV) : Prop := okS B t ∨ t = .non ∨ t = .int 0 ∨ t = .bl true ∨ t = .tup [.str "read", .str "a"] ∨ t = .lst [.str "read"]
def okLs (B n : Nat) (ts : List PV) : Prop := ts.length ≤ n ∧ ∀ t ∈ ts, okB B t
theorem okB_mono {B C : Nat} (h : B ≤ C) {t : PV} : okB B t → okB C t
  | .inl ⟨s, e, hs⟩ => .inl ⟨s, e, Nat.le_trans hs h⟩
  | .inr q => .inr q
def oddM : List PV := [.str "", .str " ", .str "read", .str "read ", .str " read", .str "reads a", .str "Read a", .str "read a", .str "read a:1", .str "a", .non, .int 0, .bl true, .tup [.str "read", .str "a"], .lst [.str "read"]]
theorem oddM_ok : ∀ t ∈ oddM, okB 13 t := by
  have hs : ∀ s ∈ (["", " ", "read", "read ", " read", "reads a", "Read a", "read a", "read a:1", "a"] : List Str), s.length ≤ 13 := by decide +kernel
  intro t ht
  have e : oddM = (["", " ", "read", "read ", " read", "reads a", "Read a", "read a", "read a:1", "a"] : List Str).map PV.str ++ [.non, .int 0, .bl true, .tup [.str "read", .str "a"], .lst [.str "read"]] := rfl
  rw [e] at ht
  rcases List.mem_append.mp ht with q | q
  · obtain ⟨s, hm, rfl⟩ := List.mem_map.mp q
    exact .inl ⟨s, rfl, hs s hm⟩
  · simp only [List.mem_cons, List.not_mem_nil, or_false] at q
    exact .inr q
theorem okLs_take {B n : Nat} {ts : List PV} (h : okLs B n ts) (k : Nat) : ∀ t ∈ ts.take k, okB (B + 13) t := fun t ht => okB_mono (by omega) (h.2 t (List.mem_of_mem_take ht))
theorem okLs_drop {B n : Nat} {ts : List PV} (h : okLs B n ts) (k : Nat) : ∀ t ∈ ts.drop k, okB (B + 13) t := fun t ht => okB_mono (by omega) (h.2 t (List.mem_of_mem_drop ht))
theorem all_app {p : PV → Prop} {a b : List PV} (h1 : ∀ t ∈ a, p t) (h2 : ∀ t ∈ b, p t) : ∀ t ∈ a ++ b, p t := fun t ht => (List.mem_append.mp ht).elim (h1 t) (h2 t)
theorem all_cons {p : PV → Prop} {a : PV} {b : List PV} (h1 : p a) (h2 : ∀ t ∈ b, p t) : ∀ t ∈ a :: b, p t := fun t ht => (List.mem_cons.mp ht).elim (fun e => e ▸ h1) (h2 t)
def bsP (e0 : PV) (B n : Nat) (x' y : PV) : Prop := Src e0 x' ∧ ∃ us, y = .lst us ∧ okLs (B + 13) (n + 7) us
theorem tlBs_ok {B n : Nat} {x : PV} {ts : List PV} {k j : Nat} (h : Src e0 x) (hl : okLs B n ts) (hn : n ≤ 100) (hB : B ≤ 20000) (hk : k ≤ ts.length) (hj : j < 8) : wq tlBs [some (.i x), some (.p (.lst ts)), some (.p (.int k)), some (.p (.int j)), none] (rtI (bsP e0 B n)) := by
  have hl1 := hl.1
  have c1 : cutL ts none (some (k : Int)) = ts.take k := cutL_to ts k
  have c0 : cutL ts (some (k : Int)) none = ts.drop k := cutL_from ts k
  have c2 : cutL ts (some ((k : Int) + 1)) none = ts.drop (k + 1) := cutL_from ts (k + 1)
  have lt : (ts.take k).length ≤ n := by rw [List.length_take]; omega
  have ld : (ts.drop k).length ≤ n := by rw [List.length_drop]; omega
  have ld1 : (ts.drop (k + 1)).length ≤ n := by rw [List.length_drop]; omega
  have sum : (ts.take k).length + (ts.drop k).length ≤ n := by rw [List.length_take, List.length_drop]; omega
  have sum1 : (ts.take k).length + (ts.drop (k + 1)).length ≤ n := by rw [List.length_take, List.length_drop]; omega
  have t1 := okLs_take hl k
  have d0 := okLs_drop hl k
  have d1 := okLs_drop hl (k + 1)
  have q : j = 0 ∨ j = 1 ∨ j = 2 ∨ j = 3 ∨ 4 ≤ j := by omega
  unfold tlBs
  rcases q with rfl | rfl | rfl | rfl | hj4
  · obtain ⟨x1, y, e1, s1, hy⟩ := one_of_ok (xs := oddM ++ ts) h (by simp [oddM]) (by simp [oddM]; omega)
    have hy' : okB (B + 13) y := (List.mem_append.mp hy).elim (fun q => okB_mono (by omega) (oddM_ok y q)) fun q => okB_mono (by omega) (hl.2 y q)
    simp only [oddM, List.cons_append, List.nil_append] at e1
    simp [e1, szL, c1, c0]
    refine ⟨by omega, by omega, by omega, s1, _, rfl, ?_, all_app t1 (all_cons hy' d0)⟩
    rw [List.length_append, List.length_cons]
    omega
  · simp [szL, c1, c2]
    refine ⟨by omega, h, _, rfl, ?_, all_app t1 d1⟩
    rw [List.length_append]
    omega
  · have em : pMulL (.lst [.str "read"]) (.int 7) = some (.lst (List.replicate 7 (.str "read"))) := by
      unfold pMulL
      dsimp only
      rw [if_pos (by decide)]
      rfl
    have cc : cutL (ts ++ List.replicate 7 (PV.str "read")) none (some 7) = (ts ++ List.replicate 7 (PV.str "read")).take 7 := cutL_to _ 7
    have hr : ∀ t ∈ List.replicate 7 (PV.str "read"), okB (B + 13) t := fun t ht => by
      rw [(List.mem_replicate.mp ht).2]
      exact okB_mono (by omega) (oddM_ok (.str "read") (by simp [oddM]))
    have ha := all_app (p := okB (B + 13)) (a := ts) (fun t ht => okB_mono (by omega) (hl.2 t ht)) hr
    simp only [List.reduceReplicate] at em cc ha
    simp [szL, em]
    rw [cc]
    exact ⟨by omega, h, _, rfl, by rw [List.length_take]; omega, fun t ht => ha t (List.mem_of_mem_take ht)⟩
  · simp [szL, c1]
    exact ⟨h, _, rfl, by omega, t1⟩
  · have n0 : j ≠ 0 := by omega
    have n1 : ¬ ((j : Int) = 1) := by omega
    have n2 : ¬ ((j : Int) = 2) := by omega
    have n3 : ¬ ((j : Int) = 3) := by omega
    simp [szL, c1, n0, n1, n2, n3]
    by_cases hke : k = ts.length
    · subst hke
      simp
      exact ⟨h, _, rfl, by omega, fun t ht => okB_mono (by omega) (hl.2 t ht)⟩
    · have hk' : k < ts.length := by omega
      have et : ts[k]? = some ts[k] := List.getElem?_eq_getElem hk'
      have ht := hl.2 ts[k] (List.getElem_mem hk')
      generalize ts[k] = t at et ht
      have hke' : ¬ ((k : Int) = (ts.length : Int)) := by omega
      have same : bsP e0 B n x (.lst ts) := ⟨h, _, rfl, by omega, fun t ht => okB_mono (by omega) (hl.2 t ht)⟩
      simp [hke, hke', atN, et]
      rcases ht with ⟨s, rfl, hs⟩ | rfl | rfl | rfl | rfl | rfl
      · obtain ⟨x1, y, e1, s1, hy⟩ := bent_line_ok (s := s) h (by omega)
        obtain ⟨u, rfl, hu⟩ := hy
        have hu' : okB (B + 13) (.str u) := .inl ⟨u, rfl, by omega⟩
        simp [atN, et, e1, szL, c1, c2]
        exact ⟨by omega, by omega, s1, _, rfl, by rw [List.length_append, List.length_cons]; omega, all_app t1 (all_cons hu' d1)⟩
      all_goals
        simp
        exact same
theorem bent_lines_ok {B n : Nat} {x : PV} {ts : List PV} (h : Src e0 x) (hl : okLs B n ts) (hn : n ≤ 100) (hB : B ≤ 20000) : ∃ x' y, f__law_bent_lines x [.lst ts] = some (x', .ret y) ∧ bsP e0 B n x' y := by
  have hl1 := hl.1
  obtain ⟨x1, y1, e1, s1, k, rfl, hk⟩ := pick_ok h (n := (ts.length : Int) + 1) (by omega) (by omega)
  obtain ⟨x2, y2, e2, s2, j, rfl, hj⟩ := pick_ok s1 (n := 8) (by decide) (by decide)
  refine runI_wq ?_
  change wq (mSeq _ (mSeq _ tlBs)) _ _
  simp only [N__law_bent_lines, stoP]
  simp [e1, e2]
  exact tlBs_ok s2 hl hn hB (by omega) (by omega)
end A07
set_option Elab.async false
set_option linter.all false
set_option maxRecDepth 100000
set_option maxHeartbeats 4000000
namespace Kp
open PySem L2
theorem pEq_self {x : PV} (h : PV.isD x = true) (hd : (PV.dat x).depth ≤ 60) : pEq x x = some (.bl true) := by
  unfold pEq pEqB
  have e : (PV.isD x && PV.isD x && decide (min (PV.dat x).depth (PV.dat x).depth ≤ 60)) = true := by
    rw [h, decide_eq_true (by omega)]
    rfl
  rw [if_pos e, PySem.SeqAt.eqv_refl_plain _ (dat_plain _)]
  rfl
end Kp
namespace A07
open PySem L2 Kp
variable {e0 : PV}
/-! ### what is equal to itself -/
theorem lst_self {ts : List PV} {n : Nat} (hn : n ≤ 50) (h : ∀ t ∈ ts, PV.isD t = true ∧ (PV.dat t).depth ≤ n) : pEq (.lst ts) (.lst ts) = some (.bl true) := by
  have go : PV.isDL ts = true ∧ PyData.depthAll (PV.datL ts) ≤ n := by
    induction ts with
    | nil => exact ⟨rfl, by simp [PV.datL, PyData.depthAll]⟩
    | cons y ys ih =>
      obtain ⟨a1, a2⟩ := ih fun z hz => h z (List.mem_cons_of_mem _ hz)
      obtain ⟨b1, b2⟩ := h y List.mem_cons_self
      refine ⟨?_, ?_⟩
      · show (PV.isD y && PV.isDL ys) = true
        rw [a1, b1]
        rfl
      · show PyData.depthAll (PV.dat y :: PV.datL ys) ≤ n
        simp only [PyData.depthAll]
        omega
  refine pEq_self go.1 ?_
  show (PyData.list (PV.datL ts)).depth ≤ 60
  simp only [PyData.depth]
  omega
theorem okB_isD {B : Nat} {t : PV} (h : okB B t) : PV.isD t = true ∧ (PV.dat t).depth ≤ 2 := by
  rcases h with ⟨s, rfl, _⟩ | rfl | rfl | rfl | rfl | rfl
  all_goals exact ⟨rfl, by simp [PV.dat, PV.datL, PyData.depth, PyData.depthAll]⟩
theorem okLs_self {B n : Nat} {ts : List PV} (h : okLs B n ts) : pEq (.lst ts) (.lst ts) = some (.bl true) := lst_self (n := 2) (by decide) fun t ht => okB_isD (h.2 t ht)
theorem okB_okT {B : Nat} (hB : B ≤ 50000) {t : PV} (h : okB B t) : okT t = true := by
  rcases h with ⟨s, rfl, hs⟩ | rfl | rfl | rfl | rfl | rfl
  · exact decide_eq_true (Nat.le_trans hs hB)
  all_goals rfl
theorem okLs_okl {B n : Nat} {ts : List PV} (hB : B ≤ 50000) (hn : n ≤ 1000) (h : okLs B n ts) : Okl ts := ⟨Nat.le_trans h.1 hn, fun t ht => okB_okT hB (h.2 t ht)⟩
/-! ### how long what is told is -/
theorem prs_len {ws : List Str} {k : Nat} {r : List (Str × Nat)} (h : prs k ws = .inr r) : r.length ≤ ws.length := by
  rw [prs_first] at h
  split at h
  · cases h
  · cases h
    exact List.length_filterMap_le _ _
theorem rdT_len {B : Nat} {t : PV} (hB : B ≤ 50000) (h : okB B t) {r : List (Str × Nat)} (e : rdT t = .inr r) : r.length ≤ 50001 := by
  rcases h with ⟨s, rfl, hs⟩ | rfl | rfl | rfl | rfl | rfl
  · have e' : rdl (sx s) = .inr r := e
    have hl := sx_len s
    cases q : sx s with
    | nil => rw [q] at e'; cases e'
    | cons w ws =>
      rw [q] at e' hl
      unfold rdl at e'
      dsimp only at e'
      split at e'
      · have := prs_len e'
        simp at hl
        omega
      · cases e'
  all_goals cases e
theorem rdW_len {B : Nat} (hB : B ≤ 50000) : ∀ {ts : List PV} {k : Nat} {rs : List (List (Str × Nat))}, (∀ t ∈ ts, okB B t) → rdW k ts = .inr rs → rs.length ≤ ts.length ∧ ∀ r ∈ rs, r.length ≤ 50001
  | [], _, rs, _, e => by
    cases e
    exact ⟨Nat.le_refl _, fun r hr => by cases hr⟩
  | t :: ts, k, rs, h, e => by
    unfold rdW at e
    split at e
    · cases e
    · cases q : rdT t with
      | inl j => rw [q] at e; cases e
      | inr r =>
        rw [q] at e
        dsimp only at e
        cases q2 : rdW (k + 1) ts with
        | inl j => rw [q2] at e; cases e
        | inr rs2 =>
          rw [q2] at e
          cases e
          obtain ⟨a, b⟩ := rdW_len hB (fun t ht => h t (List.mem_cons_of_mem _ ht)) q2
          refine ⟨by simp; omega, fun r' hr' => ?_⟩
          rcases List.mem_cons.mp hr' with rfl | hr'
          · exact rdT_len hB (h t List.mem_cons_self) q
          · exact b r' hr'
theorem giv_rd {d : Nat} {r : List (Str × Nat)} (h : r.length ≤ 60000) : giv (d + 2) (rdP r) = true := by
  refine giv_tup (by simpa using h) fun x hx => ?_
  obtain ⟨p, _, rfl⟩ := map_mem_pv hx
  refine giv_tup (by simp) fun x hx => ?_
  simp at hx
  rcases hx with rfl | rfl
  · exact giv_s
  · exact giv_i
theorem giv_bad {d : Nat} {a b : Int} : giv (d + 1) (.tup [.str "BadLine", .int a, .int b]) = true := by
  refine giv_tup (by simp) fun x hx => ?_
  simp at hx
  rcases hx with rfl | rfl | rfl
  · exact giv_s
  · exact giv_i
  · exact giv_i
theorem giv_rds {d : Nat} {rs : List (List (Str × Nat))} (h : rs.length ≤ 60000) (h2 : ∀ r ∈ rs, r.length ≤ 60000) : giv (d + 3) (.tup (rs.map rdP)) = true := by
  refine giv_tup (by simpa using h) fun x hx => ?_
  obtain ⟨r, hr, rfl⟩ := map_mem_pv hx
  exact giv_rd (h2 r hr)
theorem giv_told {d : Nat} {x : PV} (h : giv d x = true) : giv (d + 1) (.tup [.str "told", x]) = true := by
  refine giv_tup (by simp) fun y hy => ?_
  simp at hy
  rcases hy with rfl | rfl
  · exact giv_s
  · exact h
theorem giv_lawR {B n : Nat} {ts : List PV} (hB : B ≤ 50000) (hn : n ≤ 1000) (h : okLs B n ts) : giv 7 (lawR (rdWork ts)) = true := by
  unfold rdWork
  split
  · exact giv_bad
  · cases q : rdW 0 ts with
    | inl e => exact giv_bad
    | inr rs =>
      obtain ⟨a, b⟩ := rdW_len hB h.2 q
      have := h.1
      exact giv_told (d := 6) (giv_rds (d := 3) (by omega) fun r hr => Nat.le_trans (b r hr) (by decide))
theorem giv_lineR {B : Nat} {t : PV} (hB : B ≤ 50000) (h : okB B t) : giv 7 (lineR t) = true := by
  unfold lineR
  cases q : rdT t with
  | inl j => exact giv_bad
  | inr r => exact giv_told (d := 6) (giv_rd (d := 4) (Nat.le_trans (rdT_len hB h q) (by decide)))
/-! ### lists of lists -/
theorem lists_isD : ∀ (d e : Nat) (x : PV), giv d x = true → PV.isD (listsN e x) = true ∧ (PV.dat (listsN e x)).depth ≤ d := by
  have atom : ∀ (d e : Nat) (x : PV), giv d x = true → (∀ xs, x ≠ .tup xs) → PV.isD (listsN e x) = true ∧ (PV.dat (listsN e x)).depth ≤ d := by
    intro d e x h hn
    have e1 : listsN e x = x := by
      cases e with
      | zero => unfold listsN; rfl
      | succ e =>
        cases x with
        | tup xs => exact absurd rfl (hn xs)
        | _ => rfl
    rw [e1]
    cases x with
    | non => exact ⟨rfl, by simp [PV.dat, PyData.depth]⟩
    | str s => exact ⟨rfl, by simp [PV.dat, PyData.depth]⟩
    | int i => exact ⟨rfl, by simp [PV.dat, PyData.depth]⟩
    | tup xs => exact absurd rfl (hn xs)
    | _ => cases d <;> cases h
  intro d
  induction d with
  | zero => exact fun e x h => atom 0 e x h fun xs q => by rw [q] at h; cases h
  | succ d ih =>
    intro e x h
    by_cases ht : ∃ xs, x = .tup xs
    · obtain ⟨xs, rfl⟩ := ht
      obtain ⟨hl, hx⟩ := giv_seq h
      have go : ∀ (e : Nat) (ys : List PV), (∀ y ∈ ys, y ∈ xs) → PV.isDL (ys.map (listsN e)) = true ∧ PyData.depthAll (PV.datL (ys.map (listsN e))) ≤ d := by
        intro e ys
        induction ys with
        | nil => exact fun _ => ⟨rfl, by simp [PV.datL, PyData.depthAll]⟩
        | cons y ys ih2 =>
          intro hm
          obtain ⟨a1, a2⟩ := ih2 fun z hz => hm z (List.mem_cons_of_mem _ hz)
          obtain ⟨b1, b2⟩ := ih e y (hx y (hm y List.mem_cons_self))
          refine ⟨?_, ?_⟩
          · show (PV.isD (listsN e y) && PV.isDL (ys.map (listsN e))) = true
            rw [a1, b1]
            rfl
          · show PyData.depthAll (PV.dat (listsN e y) :: PV.datL (ys.map (listsN e))) ≤ d
            simp only [PyData.depthAll]
            omega
      cases e with
      | zero =>
        obtain ⟨a1, a2⟩ := go 0 xs fun y hy => hy
        have e0 : xs.map (listsN 0) = xs := by
          conv => rhs; rw [← List.map_id xs]
          exact List.map_congr_left fun x _ => by unfold listsN; rfl
        rw [e0] at a1 a2
        refine ⟨a1, ?_⟩
        show (PyData.tuple (PV.datL xs)).depth ≤ d + 1
        simp only [PyData.depth]
        omega
      | succ e =>
        obtain ⟨a1, a2⟩ := go e xs fun y hy => hy
        refine ⟨a1, ?_⟩
        show (PyData.list (PV.datL (xs.map (listsN e)))).depth ≤ d + 1
        simp only [PyData.depth]
        omega
    · exact atom (d + 1) e x h fun xs q => ht ⟨xs, q⟩
theorem pEq_lists {x : PV} {e : Nat} (h : giv 7 x = true) : pEq (listsN e x) (listsN e x) = some (.bl true) := by
  obtain ⟨a, b⟩ := lists_isD 7 e x h
  exact pEq_self a (by omega)
theorem lists_rd {d : Nat} {r : List (Str × Nat)} : listsN (d + 2) (rdP r) = .lst (r.map fun p => .lst [.str p.1, .int p.2]) := by
  show PV.lst ((r.map prP).map (listsN (d + 1))) = _
  rw [List.map_map]
  congr 1
  exact List.map_congr_left fun p _ => by
    show PV.lst [listsN d (.str p.1), listsN d (.int p.2)] = _
    cases d <;> rfl
def cP (rs : List (List (Str × Nat))) : PV := .tup (rs.map rdP)
def liP (rs : List (List (Str × Nat))) : List PV := rs.map fun r => .str (rline r)
variable {rs : List (List (Str × Nat))}
theorem lists_c {d : Nat} : listsN (d + 3) (cP rs) = .lst (rs.map fun r => listsN (d + 2) (rdP r)) := by
  show PV.lst ((rs.map rdP).map (listsN (d + 2))) = _
  rw [List.map_map]
  rfl
theorem gtv_rd {d : Nat} {r : List (Str × Nat)} (h : r.length ≤ 1000) : gtv (d + 2) (rdP r) = true := by
  refine gtv_tup (by simpa using h) fun x hx => ?_
  obtain ⟨p, _, rfl⟩ := map_mem_pv hx
  refine gtv_tup (by simp) fun x hx => ?_
  simp at hx
  rcases hx with rfl | rfl
  · exact gtv_s
  · cases d <;> rfl
structure GC (rs : List (List (Str × Nat))) : Prop where
  n : rs ≠ []
  l : rs.length ≤ 6
  r : ∀ r ∈ rs, gR r
theorem deep_rd {r : List (Str × Nat)} (h : gR r) : f_deep [rdP r] = some (.ret (rdP r)) := deep_t (gtv_rd (d := 5) (Nat.le_trans h.1 (by decide)))
theorem deep_lrd {r : List (Str × Nat)} (h : gR r) : f_deep [listsN 6 (rdP r)] = some (.ret (rdP r)) := by
  have g : gtv 7 (rdP r) = true := gtv_rd (d := 5) (Nat.le_trans h.1 (by decide))
  have e : listsN 6 (rdP r) = listsN 7 (rdP r) := by rw [lists_rd (d := 4), lists_rd (d := 5)]
  rw [e, deep_ok (gdv_lists 7 _ (gtv_gdv 7 _ g)), deep_lists, gtv_deep 7 _ g]
theorem rdW_li : ∀ {rs : List (List (Str × Nat))} {k : Nat}, k + rs.length ≤ 6 → (∀ r ∈ rs, gR r) → rdW k (liP rs) = .inr rs
  | [], _, _, _ => rfl
  | r :: rs, k, hk, h => by
    rw [List.length_cons] at hk
    have ih := rdW_li (rs := rs) (k := k + 1) (by omega) fun q hq => h q (List.mem_cons_of_mem _ hq)
    show rdW k (.str (rline r) :: liP rs) = _
    unfold rdW
    rw [if_neg (by omega), rdT_rline (h r List.mem_cons_self)]
    dsimp only
    rw [ih]
theorem rdWork_li (h : GC rs) : rdWork (liP rs) = .inr rs := by
  unfold rdWork
  rw [if_neg (by unfold liP; simpa using h.n)]
  exact rdW_li (by have := h.l; omega) h.r
theorem okLs_li (h : GC rs) : okLs 1111 6 (liP rs) := ⟨by unfold liP; rw [List.length_map]; exact h.l, fun t ht => by
  obtain ⟨r, hr, rfl⟩ := map_mem_pv ht
  exact .inl ⟨_, rfl, rline_len (h.r r hr)⟩⟩
theorem giv_c (h : GC rs) : giv 7 (cP rs) = true := giv_rds (d := 4) (by have := h.l; omega) fun r hr => Nat.le_trans (h.r r hr).1 (by decide)
theorem giv_li (h : GC rs) : giv 7 (.tup (liP rs)) = true := giv_tup (d := 6) (by have := (okLs_li h).1; omega) fun x hx => by
  obtain ⟨r, hr, rfl⟩ := map_mem_pv hx
  exact giv_s
theorem lists_cP (h : GC rs) : f__law_lists [cP rs] = some (.ret (listsN 7 (cP rs))) := by
  refine lists_ok (gtv_gdv 7 _ (gtv_tup (d := 6) ?_ fun x hx => ?_))
  · rw [List.length_map]; have := h.l; omega
  · obtain ⟨r, hr, rfl⟩ := map_mem_pv hx
    exact gtv_rd (d := 4) (Nat.le_trans (h.r r hr).1 (by decide))
end A07
set_option Elab.async false
set_option linter.all false
set_option maxRecDepth 100000
set_option maxHeartbeats 4000000
namespace A07
open PySem L2 Kp
variable {e0 : PV} {rs : List (List (Str × Nat))}
/-! ### there and back -/
def fP (form : Nat) (r : List (Str × Nat)) : PV := if form = 1 then listsN 6 (rdP r) else rdP r
def paP (form : Nat) (rs : List (List (Str × Nat))) : PV := if form = 1 then .lst (rs.map (fP 1)) else .tup (rs.map (fP 0))
theorem deep_f {form : Nat} {r : List (Str × Nat)} (h : gR r) : f_deep [fP form r] = some (.ret (rdP r)) := by
  unfold fP
  split
  · exact deep_lrd h
  · exact deep_rd h
theorem paP_0 : paP 0 rs = cP rs := rfl
theorem paP_1 : paP 1 rs = listsN 7 (cP rs) := (lists_c (d := 4)).symm
theorem write_pa {form : Nat} (h : GC rs) (hf : form = 0 ∨ form = 1) : f_write_work [paP form rs] = some (.ret (.tup (liP rs))) := by
  rcases hf with rfl | rfl
  · exact write_work_ok (fP 0) (fun r hr => deep_f (h.r r hr)) h.r (by have := h.l; omega) (.inl rfl)
  · exact write_work_ok (fP 1) (fun r hr => deep_f (h.r r hr)) h.r (by have := h.l; omega) (.inr rfl)
theorem li_at {k : Nat} {r : List (Str × Nat)} (h : rs[k]? = some r) : (liP rs)[k]? = some (.str (rline r)) := by
  unfold liP
  rw [List.getElem?_map, h]
  rfl
theorem there_ok {form : Nat} (h : GC rs) (hf : form = 0 ∨ form = 1) : f__law_there_and_back [cP rs, .int form] = some (.ret (.bl true)) := by
  have hl := h.l
  have ew := write_pa h hf
  have es := same_oki (giv_li h)
  have ell : (liP rs).length = rs.length := by unfold liP; rw [List.length_map]
  have okl := okLs_okl (by decide) (by decide) (okLs_li h)
  have elw : lawR (rdWork (liP rs)) = .tup [.str "told", cP rs] := by rw [rdWork_li h]; rfl
  have gw : giv 7 (lawR (rdWork (liP rs))) = true := giv_lawR (by decide) (by decide) (okLs_li h)
  have pl : pList [.lst (liP rs)] = some (.lst (liP rs)) := by simp [szL]; try omega
  have pt : pList [.tup (liP rs)] = some (.lst (liP rs)) := by simp [szL]; try omega
  have a0 := asked_work_ok okl pl gw
  have a1 := asked_work_ok okl pt gw
  rw [elw] at a0 a1
  have step : ∀ (k : Nat), k < rs.length → ∃ r, rs[k]? = some r ∧ gR r ∧ f_write_reading [fP form r] = some (.ret (.str (rline r))) ∧ f__law_same [.str (rline r), .str (rline r)] = some (.ret (.bl true)) ∧ f_read_reading [.str (rline r)] = some (.ret (rdP r)) ∧ f__law_same [rdP r, rdP r] = some (.ret (.bl true)) := fun k hk => by
    have er : rs[k]? = some rs[k] := List.getElem?_eq_getElem hk
    have hr := h.r _ (List.getElem_mem hk)
    generalize rs[k] = r at er hr
    refine ⟨r, er, hr, write_reading_ok hr (deep_f hr), same_oki giv_s, ?_, same_oki (giv_rd (d := 5) (Nat.le_trans hr.1 (by decide)))⟩
    rw [read_reading_ok (okB_okT (B := 1111) (by decide) (.inl ⟨_, rfl, rline_len hr⟩)), rdT_rline hr]
    rfl
  have hit : itA (cP rs) = some (rs.map rdP) := rfl
  have hlc : pLen [cP rs] = some (.int rs.length) := by unfold cP; simp
  have lc : ∀ (c1 c2 c3 c4 : Option SV), lcGo [5] (gN 5) mYes (mCall f__law_reading_line [mVar 5]) (rs.map rdP) [some (.p (cP rs)), some (.p (.int form)), none, none, none, none] = some (liP rs, [some (.p (cP rs)), some (.p (.int form)), none, none, none, none]) := fun _ _ _ _ => by
    have := lcGo_mapf (vs := [5]) (g := gN 5) (mt := mYes) (me := mCall f__law_reading_line [mVar 5]) (S := [some (.p (cP rs)), some (.p (.int form)), none, none, none, none]) rs rdP (fun _ => true) (fun r => .str (rline r)) fun r hr => ⟨_, by simp; rfl, by
      simp [law_reading_line_ok (h.r r hr)]⟩
    rw [filter_tt] at this
    exact this
  have hix : ∀ i : Int, pIx (cP rs) (.int i) = atI (rs.map rdP) i := fun i => rfl
  have hrg : ∀ y ∈ rangeP 0 rs.length, ∃ k : Nat, k < rs.length ∧ y = .int k := fun y hy => by
    unfold rangeP at hy
    obtain ⟨i, hi, rfl⟩ := List.mem_map.mp hy
    exact ⟨i, by simpa using hi, by rw [Int.zero_add]⟩
  have hps : pEq (.lst (rs.map (fP 1))) (.lst (rs.map (fP 1))) = some (.bl true) := by
    have e := pEq_lists (e := 7) (giv_c h)
    rw [← paP_1] at e
    exact e
  have hpl : f__law_lists [cP rs] = some (.ret (.lst (rs.map (fP 1)))) := by
    rw [lists_cP h, ← paP_1]
    rfl
  refine runP_eq ?_
  rcases hf with rfl | rfl
  · rw [paP_0] at ew
    simp at lc
    simp [m__law_there_and_back, N__law_there_and_back, stoP, hit, szL]
    refine ⟨by omega, lcE_of lc ?_⟩
    simp [ew, es, hlc, szL, ell, hpl]
    refine ⟨inR_of (by omega) (by omega), wq_loop (fun ys S => ∃ o4 : Option PV, (∀ y ∈ ys, ∃ k : Nat, k < rs.length ∧ y = .int k) ∧ S = [some (.p (cP rs)), some (.p (.int 0)), some (.p (.lst (liP rs))), some (.p (cP rs)), o4.map SV.p, none]) ?_ ?_ ⟨none, hrg, rfl⟩⟩
    · rintro S ⟨o4, _, rfl⟩
      simp [a0, a1, hpl, hps, szL, ell]
      all_goals try omega
    · rintro y ys S ⟨o4, hy, rfl⟩
      obtain ⟨k, hk, rfl⟩ := hy _ List.mem_cons_self
      obtain ⟨r, er, hr, q1, q2, q3, q4⟩ := step k hk
      have el := li_at er
      refine ⟨_, by simp; rfl, ?_⟩
      simp [hix, atN, er, el, show f_write_reading [rdP r] = some (.ret (.str (rline r))) from q1, q2, q3, q4]
      exact ⟨fun y q => hy y (List.mem_cons_of_mem _ q), some _, rfl⟩
  · have ew : f_write_work [.lst (rs.map (fP 1))] = some (.ret (.tup (liP rs))) := ew
    simp at lc
    simp [m__law_there_and_back, N__law_there_and_back, stoP, hit, szL]
    refine ⟨by omega, lcE_of lc ?_⟩
    simp [ew, es, hlc, szL, ell, hpl]
    refine ⟨inR_of (by omega) (by omega), wq_loop (fun ys S => ∃ o4 : Option PV, (∀ y ∈ ys, ∃ k : Nat, k < rs.length ∧ y = .int k) ∧ S = [some (.p (cP rs)), some (.p (.int 1)), some (.p (.lst (liP rs))), some (.p (.lst (rs.map (fP 1)))), o4.map SV.p, none]) ?_ ?_ ⟨none, hrg, rfl⟩⟩
    · rintro S ⟨o4, _, rfl⟩
      simp [a0, a1, hpl, hps, szL, ell]
      all_goals try omega
    · rintro y ys S ⟨o4, hy, rfl⟩
      obtain ⟨k, hk, rfl⟩ := hy _ List.mem_cons_self
      obtain ⟨r, er, hr, q1, q2, q3, q4⟩ := step k hk
      have el := li_at er
      refine ⟨_, by simp; rfl, ?_⟩
      simp [hix, atN, er, el, q1, q2, q3, q4]
      exact ⟨fun y q => hy y (List.mem_cons_of_mem _ q), some _, rfl⟩
end A07
set_option Elab.async false
set_option linter.all false
set_option maxRecDepth 100000
set_option maxHeartbeats 4000000
namespace A07
open PySem L2 Kp
variable {e0 : PV} {rs : List (List (Str × Nat))}
/-! ### a round -/
noncomputable def bdR : M Fl := mSeq (mDrop (mCallI 0 f__law_next [])) (mSeq (mSet 7 (mCB pList [mVar 5])) (mSeq (mFor (mRng1 (mBin pAdd (mK (.int 1)) (mCallI 0 f__law_pick [mK (.int 2)]))) (gN 8) (mSet 7 (mCallI 0 f__law_bent_lines [mVar 7]))) (mSeq (mSet 9 (mCB pList [mVar 7])) (mSeq (mSet 10 (mCall f__law_read [mVar 7])) (mSeq (mIf (mOr (mNot (mTru (mCall f__law_asked_work [mIfE (mTest (mBin pEq (mVar 1) (mK (.int 1)))) (mVar 9) (mCB pTuple [mVar 9]), mVar 10]))) (mNot (mTest (mBin pEq (mVar 9) (mVar 7))))) (mRet (mK (.bl false))) (mNx)) (mIf (mAnd (mTru (mVar 7)) (mNot (mTru (mCall f__law_asked_line [mCallI 0 f__law_one_of [mVar 7]])))) (mRet (mK (.bl false))) (mNx)))))))
noncomputable def tlR : M Fl := mRet (mCall f__law_there_and_back [mVar 4, mBin pSub (mK (.int 1)) (mVar 1)])
def RS (form : Nat) (ws : List Str) (m : Nat) (rs : List (List (Str × Nat))) (x : PV) (c6 c7 c8 c9 c10 : Option SV) : Sto := [some (.i x), some (.p (.int form)), some (.p (.lst (ws.map .str))), some (.p (.int m)), some (.p (cP rs)), some (.p (.lst (liP rs))), c6, c7, c8, c9, c10, none]
theorem bdR_ok (hf : FrE e0) {form m : Nat} (hform : form = 0 ∨ form = 1) (g : GC rs) {ws : List Str} {x : PV} (h : Src e0 x) {o6 o7 o8 o9 o10 : Option PV} {P : Fl → Sto → Prop}
    (K : ∀ (x' : PV) (o7 o8 o9 o10 : Option PV), Src e0 x' → P .nx (RS form ws m rs x' (o6.map SV.p) (o7.map SV.p) (o8.map SV.p) (o9.map SV.p) (o10.map SV.p))) :
    wq bdR (RS form ws m rs x (o6.map SV.p) (o7.map SV.p) (o8.map SV.p) (o9.map SV.p) (o10.map SV.p)) P := by
  obtain ⟨x1, y1, e1, s1, rfl⟩ := next_ok hf h
  obtain ⟨x2, y2, e2, s2, j, rfl, hj⟩ := pick_ok s1 (n := 2) (by decide) (by decide)
  obtain ⟨c, ec, hc⟩ : ∃ c : Nat, (1 : Int) + (j : Int) = (c : Int) ∧ c ≤ 2 := ⟨1 + j, by omega, by omega⟩
  have ll := (okLs_li g).1
  unfold bdR RS
  simp [e1, e2, ec, szL]

  refine ⟨inR_of (by omega) (by omega), wq_loop (fun ys S => ∃ (x : PV) (us : List PV) (d : Nat) (o8 : Option PV), Src e0 x ∧ okLs (1111 + 13 * d) (6 + 7 * d) us ∧ d + ys.length ≤ 2 ∧ S = RS form ws m rs x (o6.map SV.p) (some (.p (.lst us))) (o8.map SV.p) (o9.map SV.p) (o10.map SV.p)) ?_ ?_ ⟨x2, liP rs, 0, o8, s2, okLs_li g, by rw [rangeP_len]; omega, rfl⟩⟩
  · rintro S ⟨x3, us, d, o8, s3, hu, hd, rfl⟩
    have hd2 : d ≤ 2 := by omega
    have hul := hu.1
    have okl := okLs_okl (by omega) (by omega) hu
    have er := law_read_ok okl
    have gw := giv_lawR (by omega) (by omega) hu
    have pl : pList [.lst us] = some (.lst us) := by simp [szL]; try omega
    have pt : pList [.tup us] = some (.lst us) := by simp [szL]; try omega
    have a0 := asked_work_ok okl pt gw
    have a1 := asked_work_ok okl pl gw
    have pe := okLs_self hu
    have fin : wq (mIf (mAnd (mTru (mVar 7)) (mNot (mTru (mCall f__law_asked_line [mCallI 0 f__law_one_of [mVar 7]])))) (mRet (mK (.bl false))) (mNx)) (RS form ws m rs x3 (o6.map SV.p) (some (.p (.lst us))) (o8.map SV.p) (some (.p (.lst us))) (some (.p (lawR (rdWork us))))) P := by
      unfold RS
      cases us with
      | nil =>
        simp
        exact K x3 (some _) _ (some _) (some _) s3
      | cons u us' =>
        obtain ⟨x4, y4, e4, s4, hy⟩ := one_of_ok (xs := u :: us') s3 (by simp) (by omega)
        have hb := hu.2 y4 hy
        have al := asked_line_ok (okB_okT (by omega) hb) (giv_lineR (by omega) hb)
        simp [e4, al]
        exact K x4 (some _) _ (some _) (some _) s4
    unfold RS at fin ⊢
    simp at fin
    rcases hform with rfl | rfl
    · simp [er, a0, pe, szL]
      exact fin
    · simp [er, a1, pe, szL]
      exact fin
  · rintro y ys S ⟨x3, us, d, o8, s3, hu, hd, rfl⟩
    rw [List.length_cons] at hd
    obtain ⟨x4, y4, e4, s4, us2, rfl, hu2⟩ := bent_lines_ok s3 hu (by omega) (by omega)
    unfold RS
    refine ⟨_, by simp; rfl, ?_⟩
    simp [e4]
    exact ⟨x4, s4, us2, d + 1, ⟨Nat.le_trans hu2.1 (by omega), fun t ht => okB_mono (by omega) (hu2.2 t ht)⟩, by omega, rfl, rfl, some _, rfl⟩
theorem round_ok (hf : FrE e0) {form : Nat} (hform : form = 0 ∨ form = 1) {x : PV} (h : Src e0 x) : ∃ x' y, f__law_round x [.int form] = some (x', .ret y) ∧ (Src e0 x' ∧ y = .bl true) := by
  obtain ⟨x1, y1, e1, s1, rfl⟩ := next_ok hf h
  obtain ⟨x2, y2, e2, s2, ws, rfl, hwl, _, hw, _⟩ := words_ok (n := 3) (L := 7) s1 (by decide) (by decide) (by decide) (isStrs_l []) (by decide)
  have hw1 : ∀ w ∈ ws, lw w := fun w hm => (hw w hm).1
  have hwn : ws ≠ [] := fun q => by rw [q] at hwl; cases hwl
  have e2' : f__law_words x1 [.int 3, .int 7, .lst []] = some (x2, .ret (.lst (ws.map .str))) := e2
  obtain ⟨x3, y3, e3, s3, j, rfl, hj⟩ := pick_ok s2 (n := 6) (by decide) (by decide)
  obtain ⟨m, em, hm, hm1⟩ : ∃ m : Nat, (1 : Int) + (j : Int) = (m : Int) ∧ m ≤ 6 ∧ 1 ≤ m := ⟨1 + j, by omega, by omega, by omega⟩
  refine runI_wq ?_
  simp [m__law_round, N__law_round, stoP, e1, e2', e3, em, szL, rangeP_len]
  refine ⟨inR_of (by omega) (by omega), by omega, ?_⟩
  refine lcE_draw (fun x => [some (.i x), some (.p (.int form)), some (.p (.lst (ws.map .str))), some (.p (.int m)), none, none, none, none, none, none, none, none]) (fun _ => True) (fun z => ∃ r, z = rdP r ∧ gR r) s3 (fun _ _ => trivial) (fun x y hx _ => ?_) fun zs x4 hl hz s4 => ?_
  · obtain ⟨x5, y5, e5, s5, r, rfl, hr⟩ := wide_reading_ok hf (ws := ws) hx hwn (by omega) hw1
    refine ⟨_, by simp; rfl, ?_⟩
    simp [e5]
    exact ⟨⟨r, rfl, hr⟩, s5⟩
  obtain ⟨rs, rfl, hrs⟩ := map_of hz
  rw [rangeP_len, List.length_map] at hl
  have g : GC rs := ⟨fun q => by rw [q] at hl; simp at hl; omega, by omega, hrs⟩
  have et := there_ok g hform
  have et2 : f__law_there_and_back [cP rs, .int (1 - (form : Int))] = some (.ret (.bl true)) := by
    rcases hform with rfl | rfl
    · exact there_ok g (form := 1) (.inr rfl)
    · exact there_ok g (form := 0) (.inl rfl)
  have hcp : PV.tup (rs.map rdP) = cP rs := rfl
  have hit : itA (cP rs) = some (rs.map rdP) := rfl
  have lc : lcGo [11] (gN 11) mYes (mCall f__law_reading_line [mVar 11]) (rs.map rdP) [some (.i x4), some (.p (.int form)), some (.p (.lst (ws.map .str))), some (.p (.int m)), some (.p (cP rs)), none, none, none, none, none, none, none] = some (liP rs, [some (.i x4), some (.p (.int form)), some (.p (.lst (ws.map .str))), some (.p (.int m)), some (.p (cP rs)), none, none, none, none, none, none, none]) := by
    have := lcGo_mapf (vs := [11]) (g := gN 11) (mt := mYes) (me := mCall f__law_reading_line [mVar 11]) (S := [some (.i x4), some (.p (.int form)), some (.p (.lst (ws.map .str))), some (.p (.int m)), some (.p (cP rs)), none, none, none, none, none, none, none]) rs rdP (fun _ => true) (fun r => .str (rline r)) fun r hr => ⟨_, by simp; rfl, by
      simp [law_reading_line_ok (g.r r hr)]⟩
    rw [filter_tt] at this
    exact this
  simp [szL, hcp, et, hit]
  refine ⟨by omega, lcE_of lc ?_⟩
  simp
  refine ⟨inR_of (by omega) (by omega), ?_⟩
  refine wq_loop (fun ys S => ∃ (x : PV) (o6 o7 o8 o9 o10 : Option PV), Src e0 x ∧ S = RS form ws m rs x (o6.map SV.p) (o7.map SV.p) (o8.map SV.p) (o9.map SV.p) (o10.map SV.p)) ?_ ?_ ⟨x4, none, none, none, none, none, s4, rfl⟩
  · rintro S ⟨x5, o6, o7, o8, o9, o10, s5, rfl⟩
    unfold RS
    simp [et2]
    exact s5
  · rintro y ys S ⟨x5, o6, o7, o8, o9, o10, s5, rfl⟩
    refine ⟨RS form ws m rs x5 ((some y).map SV.p) (o7.map SV.p) (o8.map SV.p) (o9.map SV.p) (o10.map SV.p), by unfold RS; simp, ?_⟩
    refine bdR_ok hf hform g s5 (o6 := some y) fun x6 o7 o8 o9 o10 s6 => ?_
    exact ⟨x6, some y, o7, o8, o9, o10, s6, rfl⟩
end A07
set_option Elab.async false
set_option linter.all false
set_option maxRecDepth 100000
set_option maxHeartbeats 4000000
namespace A07
open PySem L2 Kp
theorem source_ok {ns : List Int} : f__law_source [.frl ns, .int 0] = some (.ret (.lst [.frl ns, .int 0, .int 0, .int 0, .int 0])) := rfl
theorem law_true (ns : List Int) (hns : ns.length ≤ 63) : f_law [.frl ns] = some (.ret (.bl true)) := by
  have hfr : FrE (.frl ns) := ⟨ns, rfl, hns⟩
  have s0 : Src (.frl ns) (.lst [.frl ns, .int 0, .int 0, .int 0, .int 0]) := ⟨0, 0, 0, 0, rfl, Int.le_refl _⟩
  obtain ⟨x1, y1, e1, s1, rfl⟩ := round_ok hfr (form := 0) (.inl rfl) s0
  obtain ⟨x2, y2, e2, s2, rfl⟩ := round_ok hfr (form := 1) (.inr rfl) s1
  obtain ⟨x3, y3, e3, s3, rfl⟩ := round_ok hfr (form := 0) (.inl rfl) s2
  have e1' : f__law_round (.lst [.frl ns, .int 0, .int 0, .int 0, .int 0]) [.int 0] = some (x1, .ret (.bl true)) := e1
  have e2' : f__law_round x1 [.int 1] = some (x2, .ret (.bl true)) := e2
  have e3' : f__law_round x2 [.int 0] = some (x3, .ret (.bl true)) := e3
  refine runP_eq ?_
  simp [m_law, N_law, stoP, source_ok, e1', e2', e3']
end A07
set_option Elab.async false
set_option linter.all false
set_option maxRecDepth 100000
set_option maxHeartbeats 4000000
namespace A07J
open PySem PySem.Spec PyProof.Rows L2 Kp A07
theorem all_mk {P : Program} {w : World} {K : PySem.W.Frag} {h : Heap} {mg : Str → Option Value} {fl : Addr} (X : K.In h) (G : h.Ns mainGlobals mg) (hfa : mg "law" = some (.ref fl)) (c : SaysK chks fns K) : ∃ fd : FuncData, (∀ (s : Shared) (u : Value), BindsTo s fd ⟨[u], []⟩ [("script", u)]) ∧
    ∀ base : Heap, K.In base → base.Ns mainGlobals mg → ∃ cl : Nat → Addr, FnOk P w K mg base (L2N.CX P w) 13 fl fd ["script"] (spP K cl 1 f_law) := by
  have cc := c.chk_
  have q0 : allB (chk0 K) = true := allB_at cc 0
  have c0 := allB_at q0 0
  have c1 := allB_at q0 1
  have c2 := allB_at q0 2
  have c3 := allB_at q0 3
  have c4 := allB_at q0 4
  have c5 := allB_at q0 5
  have c6 := allB_at q0 6
  have c7 := allB_at q0 7
  have c8 := allB_at q0 8
  have c9 := allB_at q0 9
  have c10 := allB_at q0 10
  have c11 := allB_at q0 11
  have c12 := allB_at q0 12
  have c13 := allB_at q0 13
  have c14 := allB_at q0 14
  have c15 := allB_at q0 15
  have c16 := allB_at q0 16
  have c17 := allB_at q0 17
  have c18 := allB_at q0 18
  have c19 := allB_at q0 19
  have c20 := allB_at q0 20
  have c21 := allB_at q0 21
  have c22 := allB_at q0 22
  have c23 := allB_at q0 23
  have c24 := allB_at q0 24
  have c25 := allB_at q0 25
  have c26 := allB_at q0 26
  have c27 := allB_at q0 27
  have c28 := allB_at q0 28
  have c29 := allB_at q0 29
  have c30 := allB_at q0 30
  have c31 := allB_at q0 31
  have c32 := allB_at q0 32
  have c33 := allB_at q0 33
  have c34 := allB_at q0 34
  have c35 := allB_at q0 35
  have c36 := allB_at q0 36
  have c37 := allB_at q0 37
  have c38 := allB_at q0 38
  have c39 := allB_at q0 39
  have q1 : allB (chk1 K) = true := allB_at cc 1
  have c40 := allB_at q1 0
  have c41 := allB_at q1 1
  have c42 := allB_at q1 2
  have c43 := allB_at q1 3
  have c44 := allB_at q1 4
  have c45 := allB_at q1 5
  have c46 := allB_at q1 6
  have c47 := allB_at q1 7
  have c48 := allB_at q1 8
  have c49 := allB_at q1 9
  have c50 := allB_at q1 10
  have c51 := allB_at q1 11
  have c52 := allB_at q1 12
  have c53 := allB_at q1 13
  have c54 := allB_at q1 14
  have c55 := allB_at q1 15
  have c56 := allB_at q1 16
  have c57 := allB_at q1 17
  have c58 := allB_at q1 18
  have c59 := allB_at q1 19
  have c60 := allB_at q1 20
  have c61 := allB_at q1 21
  have c62 := allB_at q1 22
  have c63 := allB_at q1 23
  have c64 := allB_at q1 24
  have c65 := allB_at q1 25
  have c66 := allB_at q1 26
  have c67 := allB_at q1 27
  have c68 := allB_at q1 28
  have c69 := allB_at q1 29
  have c70 := allB_at q1 30
  have c71 := allB_at q1 31
  have c72 := allB_at q1 32
  have c73 := allB_at q1 33
  have c74 := allB_at q1 34
  have c75 := allB_at q1 35
  have c76 := allB_at q1 36
  have c77 := allB_at q1 37
  have c78 := allB_at q1 38
  have c79 := allB_at q1 39
  have q2 : allB (chk2 K) = true := allB_at cc 2
  have c80 := allB_at q2 0
  have c81 := allB_at q2 1
  have c82 := allB_at q2 2
  have c83 := allB_at q2 3
  have c84 := allB_at q2 4
  have c85 := allB_at q2 5
  have c86 := allB_at q2 6
  have c87 := allB_at q2 7
  have c88 := allB_at q2 8
  have c89 := allB_at q2 9
  have c90 := allB_at q2 10
  have c91 := allB_at q2 11
  have c92 := allB_at q2 12
  have c93 := allB_at q2 13
  have c94 := allB_at q2 14
  have c95 := allB_at q2 15
  have c96 := allB_at q2 16
  have c97 := allB_at q2 17
  have c98 := allB_at q2 18
  have c99 := allB_at q2 19
  have c100 := allB_at q2 20
  have c101 := allB_at q2 21
  have c102 := allB_at q2 22
  have c103 := allB_at q2 23
  have c104 := allB_at q2 24
  have c105 := allB_at q2 25
  have c106 := allB_at q2 26
  have c107 := allB_at q2 27
  have c108 := allB_at q2 28
  have c109 := allB_at q2 29
  have c110 := allB_at q2 30
  have c111 := allB_at q2 31
  have c112 := allB_at q2 32
  have c113 := allB_at q2 33
  have c114 := allB_at q2 34
  have c115 := allB_at q2 35
  have c116 := allB_at q2 36
  have c117 := allB_at q2 37
  have c118 := allB_at q2 38
  have c119 := allB_at q2 39
  have q3 : allB (chk3 K) = true := allB_at cc 3
  have c120 := allB_at q3 0
  have c121 := allB_at q3 1
  have c122 := allB_at q3 2
  have c123 := allB_at q3 3
  have c124 := allB_at q3 4
  have c125 := allB_at q3 5
  have e := hfa.symm.trans (bNs_some X G c73)
  cases e
  obtain ⟨d1, D1⟩ := c.def_ 0 rfl
  have D1 : FunD K "__init__" "BadReading.__init__" (defArgs s_BadReading___init__) (defBody s_BadReading___init__) (defScope s_BadReading___init__) [] [] (A1 K) d1 := D1
  have F1 : Fun K "__init__" "BadReading.__init__" s_BadReading___init__ (A1 K) d1 := fun_of D1
  have b1 := F1.binds (ps := ["self", "number"]) fun _ _ _ _ _ _ us hl => match us, hl with | [_, _], _ => rfl
  obtain ⟨d2, D2⟩ := c.def_ 1 rfl
  have D2 : FunD K "__init__" "BadLine.__init__" (defArgs s_BadLine___init__) (defBody s_BadLine___init__) (defScope s_BadLine___init__) [] [] (A2 K) d2 := D2
  have F2 : Fun K "__init__" "BadLine.__init__" s_BadLine___init__ (A2 K) d2 := fun_of D2
  have b2 := F2.binds (ps := ["self", "line", "word"]) fun _ _ _ _ _ _ us hl => match us, hl with | [_, _, _], _ => rfl
  obtain ⟨d3, D3⟩ := c.def_ 2 rfl
  have D3 : FunD K "__init__" "BadWork.__init__" (defArgs s_BadWork___init__) (defBody s_BadWork___init__) (defScope s_BadWork___init__) [] [] (A3 K) d3 := D3
  have F3 : Fun K "__init__" "BadWork.__init__" s_BadWork___init__ (A3 K) d3 := fun_of D3
  have b3 := F3.binds (ps := ["self", "number"]) fun _ _ _ _ _ _ us hl => match us, hl with | [_, _], _ => rfl
  obtain ⟨d4, D4⟩ := c.def_ 3 rfl
  have D4 : FunD K "deep" "deep" (defArgs s_deep) (defBody s_deep) (defScope s_deep) [] [] (A4 K) d4 := D4
  have F4 : Fun K "deep" "deep" s_deep (A4 K) d4 := fun_of D4
  have b4 := F4.binds (ps := ["thing"]) fun _ _ _ _ _ _ us hl => match us, hl with | [_], _ => rfl
  obtain ⟨d5, D5⟩ := c.def_ 4 rfl
  have D5 : FunD K "is_word" "is_word" (defArgs s_is_word) (defBody s_is_word) (defScope s_is_word) [] [] (A5 K) d5 := D5
  have F5 : Fun K "is_word" "is_word" s_is_word (A5 K) d5 := fun_of D5
  have b5 := F5.binds (ps := ["thing"]) fun _ _ _ _ _ _ us hl => match us, hl with | [_], _ => rfl
  obtain ⟨d6, D6⟩ := c.def_ 5 rfl
  have D6 : FunD K "__init__" "Lines.__init__" (defArgs s_Lines___init__) (defBody s_Lines___init__) (defScope s_Lines___init__) [] [] (A6 K) d6 := D6
  have F6 : Fun K "__init__" "Lines.__init__" s_Lines___init__ (A6 K) d6 := fun_of D6
  have b6 := F6.binds (ps := ["self", "texts"]) fun _ _ _ _ _ _ us hl => match us, hl with | [_, _], _ => rfl
  obtain ⟨d8, D8⟩ := c.def_ 6 rfl
  have D8 : FunD K "line_words" "Lines.line_words" (defArgs s_Lines_line_words) (defBody s_Lines_line_words) (defScope s_Lines_line_words) [] [] (A8 K) d8 := D8
  have F8 : Fun K "line_words" "Lines.line_words" s_Lines_line_words (A8 K) d8 := fun_of D8
  have b8 := F8.binds (ps := ["self"]) fun _ _ _ _ _ _ us hl => match us, hl with | [_], _ => rfl
  obtain ⟨d9, D9⟩ := c.def_ 7 rfl
  have D9 : FunD K "first_word" "Lines.first_word" (defArgs s_Lines_first_word) (defBody s_Lines_first_word) (defScope s_Lines_first_word) [] [] (A9 K) d9 := D9
  have F9 : Fun K "first_word" "Lines.first_word" s_Lines_first_word (A9 K) d9 := fun_of D9
  have b9 := F9.binds (ps := ["self"]) fun _ _ _ _ _ _ us hl => match us, hl with | [_], _ => rfl
  obtain ⟨d10, D10⟩ := c.def_ 8 rfl
  have D10 : FunD K "many_words" "Lines.many_words" (defArgs s_Lines_many_words) (defBody s_Lines_many_words) (defScope s_Lines_many_words) [] [] (A10 K) d10 := D10
  have F10 : Fun K "many_words" "Lines.many_words" s_Lines_many_words (A10 K) d10 := fun_of D10
  have b10 := F10.binds (ps := ["self"]) fun _ _ _ _ _ _ us hl => match us, hl with | [_], _ => rfl
  obtain ⟨d11, D11⟩ := c.def_ 9 rfl
  have D11 : FunD K "word_at" "Lines.word_at" (defArgs s_Lines_word_at) (defBody s_Lines_word_at) (defScope s_Lines_word_at) [] [] (A11 K) d11 := D11
  have F11 : Fun K "word_at" "Lines.word_at" s_Lines_word_at (A11 K) d11 := fun_of D11
  have b11 := F11.binds (ps := ["self", "k"]) fun _ _ _ _ _ _ us hl => match us, hl with | [_, _], _ => rfl
  obtain ⟨d13, D13⟩ := c.def_ 10 rfl
  have D13 : FunD K "fail_at" "Lines.fail_at" (defArgs s_Lines_fail_at) (defBody s_Lines_fail_at) (defScope s_Lines_fail_at) [] [] (A13 K) d13 := D13
  have F13 : Fun K "fail_at" "Lines.fail_at" s_Lines_fail_at (A13 K) d13 := fun_of D13
  have b13 := F13.binds (ps := ["self", "k"]) fun _ _ _ _ _ _ us hl => match us, hl with | [_, _], _ => rfl
  obtain ⟨d17, D17⟩ := c.def_ 11 rfl
  have D17 : FunD K "want_word" "Lines.want_word" (defArgs s_Lines_want_word) (defBody s_Lines_want_word) (defScope s_Lines_want_word) [] [] (A17 K) d17 := D17
  have F17 : Fun K "want_word" "Lines.want_word" s_Lines_want_word (A17 K) d17 := fun_of D17
  have b17 := F17.binds (ps := ["self", "word"]) fun _ _ _ _ _ _ us hl => match us, hl with | [_, _], _ => rfl
  obtain ⟨d18, D18⟩ := c.def_ 12 rfl
  have D18 : FunD K "close_at" "Lines.close_at" (defArgs s_Lines_close_at) (defBody s_Lines_close_at) (defScope s_Lines_close_at) [] [] (A18 K) d18 := D18
  have F18 : Fun K "close_at" "Lines.close_at" s_Lines_close_at (A18 K) d18 := fun_of D18
  have b18 := F18.binds (ps := ["self", "k"]) fun _ _ _ _ _ _ us hl => match us, hl with | [_, _], _ => rfl
  obtain ⟨d19, D19⟩ := c.def_ 13 rfl
  have D19 : FunD K "no_more" "no_more" (defArgs s_no_more) (defBody s_no_more) (defScope s_no_more) [] [] (A19 K) d19 := D19
  have F19 : Fun K "no_more" "no_more" s_no_more (A19 K) d19 := fun_of D19
  have b19 := F19.binds (ps := ["lines"]) fun _ _ _ _ _ _ us hl => match us, hl with | [_], _ => rfl
  obtain ⟨d20, D20⟩ := c.def_ 14 rfl
  have D20 : FunD K "write_reading" "write_reading" (defArgs s_write_reading) (defBody s_write_reading) (defScope s_write_reading) [] [] (A20 K) d20 := D20
  have F20 : Fun K "write_reading" "write_reading" s_write_reading (A20 K) d20 := fun_of D20
  have b20 := F20.binds (ps := ["reading"]) fun _ _ _ _ _ _ us hl => match us, hl with | [_], _ => rfl
  obtain ⟨d21, D21⟩ := c.def_ 15 rfl
  have D21 : FunD K "write_work" "write_work" (defArgs s_write_work) (defBody s_write_work) (defScope s_write_work) [] [] (A21 K) d21 := D21
  have F21 : Fun K "write_work" "write_work" s_write_work (A21 K) d21 := fun_of D21
  have b21 := F21.binds (ps := ["chapters"]) fun _ _ _ _ _ _ us hl => match us, hl with | [_], _ => rfl
  obtain ⟨d22, D22⟩ := c.def_ 16 rfl
  have D22 : FunD K "pick_pair_at" "pick_pair_at" (defArgs s_pick_pair_at) (defBody s_pick_pair_at) (defScope s_pick_pair_at) [] [] (A22 K) d22 := D22
  have F22 : Fun K "pick_pair_at" "pick_pair_at" s_pick_pair_at (A22 K) d22 := fun_of D22
  have b22 := F22.binds (ps := ["lines", "at"]) fun _ _ _ _ _ _ us hl => match us, hl with | [_, _], _ => rfl
  obtain ⟨d23, D23⟩ := c.def_ 17 rfl
  have D23 : FunD K "reading_row" "reading_row" (defArgs s_reading_row) (defBody s_reading_row) (defScope s_reading_row) [] [] (A23 K) d23 := D23
  have F23 : Fun K "reading_row" "reading_row" s_reading_row (A23 K) d23 := fun_of D23
  have b23 := F23.binds (ps := ["lines"]) fun _ _ _ _ _ _ us hl => match us, hl with | [_], _ => rfl
  obtain ⟨d24, D24⟩ := c.def_ 18 rfl
  have D24 : FunD K "read_reading" "read_reading" (defArgs s_read_reading) (defBody s_read_reading) (defScope s_read_reading) [] [] (A24 K) d24 := D24
  have F24 : Fun K "read_reading" "read_reading" s_read_reading (A24 K) d24 := fun_of D24
  have b24 := F24.binds (ps := ["line"]) fun _ _ _ _ _ _ us hl => match us, hl with | [_], _ => rfl
  obtain ⟨d25, D25⟩ := c.def_ 19 rfl
  have D25 : FunD K "read_work" "read_work" (defArgs s_read_work) (defBody s_read_work) (defScope s_read_work) [] [] (A25 K) d25 := D25
  have F25 : Fun K "read_work" "read_work" s_read_work (A25 K) d25 := fun_of D25
  have b25 := F25.binds (ps := ["lines"]) fun _ _ _ _ _ _ us hl => match us, hl with | [_], _ => rfl
  obtain ⟨d26, D26⟩ := c.def_ 20 rfl
  have D26 : FunD K "_law_source" "_law_source" (defArgs s__law_source) (defBody s__law_source) (defScope s__law_source) [] [] (A26 K) d26 := D26
  have F26 : Fun K "_law_source" "_law_source" s__law_source (A26 K) d26 := fun_of D26
  have b26 := F26.binds (ps := ["script", "salt"]) fun _ _ _ _ _ _ us hl => match us, hl with | [_, _], _ => rfl
  obtain ⟨d27, D27⟩ := c.def_ 21 rfl
  have D27 : FunD K "_law_next" "_law_next" (defArgs s__law_next) (defBody s__law_next) (defScope s__law_next) [] [] (A27 K) d27 := D27
  have F27 : Fun K "_law_next" "_law_next" s__law_next (A27 K) d27 := fun_of D27
  have b27 := F27.binds (ps := ["source"]) fun _ _ _ _ _ _ us hl => match us, hl with | [_], _ => rfl
  obtain ⟨d28, D28⟩ := c.def_ 22 rfl
  have D28 : FunD K "_law_pick" "_law_pick" (defArgs s__law_pick) (defBody s__law_pick) (defScope s__law_pick) [] [] (A28 K) d28 := D28
  have F28 : Fun K "_law_pick" "_law_pick" s__law_pick (A28 K) d28 := fun_of D28
  have b28 := F28.binds (ps := ["source", "many"]) fun _ _ _ _ _ _ us hl => match us, hl with | [_, _], _ => rfl
  obtain ⟨d29, D29⟩ := c.def_ 23 rfl
  have D29 : FunD K "_law_one_in" "_law_one_in" (defArgs s__law_one_in) (defBody s__law_one_in) (defScope s__law_one_in) [] [] (A29 K) d29 := D29
  have F29 : Fun K "_law_one_in" "_law_one_in" s__law_one_in (A29 K) d29 := fun_of D29
  have b29 := F29.binds (ps := ["source", "many"]) fun _ _ _ _ _ _ us hl => match us, hl with | [_, _], _ => rfl
  obtain ⟨d30, D30⟩ := c.def_ 24 rfl
  have D30 : FunD K "_law_one_of" "_law_one_of" (defArgs s__law_one_of) (defBody s__law_one_of) (defScope s__law_one_of) [] [] (A30 K) d30 := D30
  have F30 : Fun K "_law_one_of" "_law_one_of" s__law_one_of (A30 K) d30 := fun_of D30
  have b30 := F30.binds (ps := ["source", "row"]) fun _ _ _ _ _ _ us hl => match us, hl with | [_, _], _ => rfl
  obtain ⟨d31, D31⟩ := c.def_ 25 rfl
  have D31 : FunD K "_law_letter" "_law_letter" (defArgs s__law_letter) (defBody s__law_letter) (defScope s__law_letter) [] [] (A31 K) d31 := D31
  have F31 : Fun K "_law_letter" "_law_letter" s__law_letter (A31 K) d31 := fun_of D31
  have b31 := F31.binds (ps := ["k"]) fun _ _ _ _ _ _ us hl => match us, hl with | [_], _ => rfl
  obtain ⟨d32, D32⟩ := c.def_ 26 rfl
  have D32 : FunD K "_law_word" "_law_word" (defArgs s__law_word) (defBody s__law_word) (defScope s__law_word) [] [] (A32 K) d32 := D32
  have F32 : Fun K "_law_word" "_law_word" s__law_word (A32 K) d32 := fun_of D32
  have b32 := F32.binds (ps := ["source", "longest"]) fun _ _ _ _ _ _ us hl => match us, hl with | [_, _], _ => rfl
  obtain ⟨d33, D33⟩ := c.def_ 27 rfl
  have D33 : FunD K "_law_words" "_law_words" (defArgs s__law_words) (defBody s__law_words) (defScope s__law_words) [] [] (A33 K) d33 := D33
  have F33 : Fun K "_law_words" "_law_words" s__law_words (A33 K) d33 := fun_of D33
  have b33 := F33.binds (ps := ["source", "many", "longest", "spent"]) fun _ _ _ _ _ _ us hl => match us, hl with | [_, _, _, _], _ => rfl
  obtain ⟨d34, D34⟩ := c.def_ 28 rfl
  have D34 : FunD K "_law_lists" "_law_lists" (defArgs s__law_lists) (defBody s__law_lists) (defScope s__law_lists) [] [] (A34 K) d34 := D34
  have F34 : Fun K "_law_lists" "_law_lists" s__law_lists (A34 K) d34 := fun_of D34
  have b34 := F34.binds (ps := ["thing"]) fun _ _ _ _ _ _ us hl => match us, hl with | [_], _ => rfl
  obtain ⟨d35, D35⟩ := c.def_ 29 rfl
  have D35 : FunD K "_law_same" "_law_same" (defArgs s__law_same) (defBody s__law_same) (defScope s__law_same) [] [] (A35 K) d35 := D35
  have F35 : Fun K "_law_same" "_law_same" s__law_same (A35 K) d35 := fun_of D35
  have b35 := F35.binds (ps := ["actual", "due"]) fun _ _ _ _ _ _ us hl => match us, hl with | [_, _], _ => rfl
  obtain ⟨d36, D36⟩ := c.def_ 30 rfl
  have D36 : FunD K "_law_is_word" "_law_is_word" (defArgs s__law_is_word) (defBody s__law_is_word) (defScope s__law_is_word) [] [] (A36 K) d36 := D36
  have F36 : Fun K "_law_is_word" "_law_is_word" s__law_is_word (A36 K) d36 := fun_of D36
  have b36 := F36.binds (ps := ["text"]) fun _ _ _ _ _ _ us hl => match us, hl with | [_], _ => rfl
  obtain ⟨d37, D37⟩ := c.def_ 31 rfl
  have D37 : FunD K "_law_reading_line" "_law_reading_line" (defArgs s__law_reading_line) (defBody s__law_reading_line) (defScope s__law_reading_line) [] [] (A37 K) d37 := D37
  have F37 : Fun K "_law_reading_line" "_law_reading_line" s__law_reading_line (A37 K) d37 := fun_of D37
  have b37 := F37.binds (ps := ["reading"]) fun _ _ _ _ _ _ us hl => match us, hl with | [_], _ => rfl
  obtain ⟨d38, D38⟩ := c.def_ 32 rfl
  have D38 : FunD K "_law_pair_of" "_law_pair_of" (defArgs s__law_pair_of) (defBody s__law_pair_of) (defScope s__law_pair_of) [] [] (A38 K) d38 := D38
  have F38 : Fun K "_law_pair_of" "_law_pair_of" s__law_pair_of (A38 K) d38 := fun_of D38
  have b38 := F38.binds (ps := ["text"]) fun _ _ _ _ _ _ us hl => match us, hl with | [_], _ => rfl
  obtain ⟨d39, D39⟩ := c.def_ 33 rfl
  have D39 : FunD K "_law_read" "_law_read" (defArgs s__law_read) (defBody s__law_read) (defScope s__law_read) [] [] (A39 K) d39 := D39
  have F39 : Fun K "_law_read" "_law_read" s__law_read (A39 K) d39 := fun_of D39
  have b39 := F39.binds (ps := ["lines"]) fun _ _ _ _ _ _ us hl => match us, hl with | [_], _ => rfl
  obtain ⟨d40, D40⟩ := c.def_ 34 rfl
  have D40 : FunD K "_law_error" "_law_error" (defArgs s__law_error) (defBody s__law_error) (defScope s__law_error) [] [] (A40 K) d40 := D40
  have F40 : Fun K "_law_error" "_law_error" s__law_error (A40 K) d40 := fun_of D40
  have b40 := F40.binds (ps := ["raised"]) fun _ _ _ _ _ _ us hl => match us, hl with | [_], _ => rfl
  obtain ⟨d41, D41⟩ := c.def_ 35 rfl
  have D41 : FunD K "_law_asked_work" "_law_asked_work" (defArgs s__law_asked_work) (defBody s__law_asked_work) (defScope s__law_asked_work) [] [] (A41 K) d41 := D41
  have F41 : Fun K "_law_asked_work" "_law_asked_work" s__law_asked_work (A41 K) d41 := fun_of D41
  have b41 := F41.binds (ps := ["lines", "due"]) fun _ _ _ _ _ _ us hl => match us, hl with | [_, _], _ => rfl
  obtain ⟨d42, D42⟩ := c.def_ 36 rfl
  have D42 : FunD K "_law_asked_line" "_law_asked_line" (defArgs s__law_asked_line) (defBody s__law_asked_line) (defScope s__law_asked_line) [] [] (A42 K) d42 := D42
  have F42 : Fun K "_law_asked_line" "_law_asked_line" s__law_asked_line (A42 K) d42 := fun_of D42
  have b42 := F42.binds (ps := ["line"]) fun _ _ _ _ _ _ us hl => match us, hl with | [_], _ => rfl
  obtain ⟨d43, D43⟩ := c.def_ 37 rfl
  have D43 : FunD K "_law_wide_reading" "_law_wide_reading" (defArgs s__law_wide_reading) (defBody s__law_wide_reading) (defScope s__law_wide_reading) [] [] (A43 K) d43 := D43
  have F43 : Fun K "_law_wide_reading" "_law_wide_reading" s__law_wide_reading (A43 K) d43 := fun_of D43
  have b43 := F43.binds (ps := ["source", "pool"]) fun _ _ _ _ _ _ us hl => match us, hl with | [_, _], _ => rfl
  obtain ⟨d44, D44⟩ := c.def_ 38 rfl
  have D44 : FunD K "_law_bent_line" "_law_bent_line" (defArgs s__law_bent_line) (defBody s__law_bent_line) (defScope s__law_bent_line) [] [] (A44 K) d44 := D44
  have F44 : Fun K "_law_bent_line" "_law_bent_line" s__law_bent_line (A44 K) d44 := fun_of D44
  have b44 := F44.binds (ps := ["source", "line"]) fun _ _ _ _ _ _ us hl => match us, hl with | [_, _], _ => rfl
  obtain ⟨d45, D45⟩ := c.def_ 39 rfl
  have D45 : FunD K "_law_bent_lines" "_law_bent_lines" (defArgs s__law_bent_lines) (defBody s__law_bent_lines) (defScope s__law_bent_lines) [] [] (A45 K) d45 := D45
  have F45 : Fun K "_law_bent_lines" "_law_bent_lines" s__law_bent_lines (A45 K) d45 := fun_of D45
  have b45 := F45.binds (ps := ["source", "lines"]) fun _ _ _ _ _ _ us hl => match us, hl with | [_, _], _ => rfl
  obtain ⟨d46, D46⟩ := c.def_ 40 rfl
  have D46 : FunD K "_law_there_and_back" "_law_there_and_back" (defArgs s__law_there_and_back) (defBody s__law_there_and_back) (defScope s__law_there_and_back) [] [] (A46 K) d46 := D46
  have F46 : Fun K "_law_there_and_back" "_law_there_and_back" s__law_there_and_back (A46 K) d46 := fun_of D46
  have b46 := F46.binds (ps := ["chapters", "form"]) fun _ _ _ _ _ _ us hl => match us, hl with | [_, _], _ => rfl
  obtain ⟨d47, D47⟩ := c.def_ 41 rfl
  have D47 : FunD K "_law_round" "_law_round" (defArgs s__law_round) (defBody s__law_round) (defScope s__law_round) [] [] (A47 K) d47 := D47
  have F47 : Fun K "_law_round" "_law_round" s__law_round (A47 K) d47 := fun_of D47
  have b47 := F47.binds (ps := ["source", "form"]) fun _ _ _ _ _ _ us hl => match us, hl with | [_, _], _ => rfl
  obtain ⟨d48, D48⟩ := c.def_ 42 rfl
  have D48 : FunD K "law" "law" (defArgs s_law) (defBody s_law) (defScope s_law) [] [] (A48 K) d48 := D48
  have F48 : Fun K "law" "law" s_law (A48 K) d48 := fun_of D48
  have b48 := F48.binds (ps := ["script"]) fun _ _ _ _ _ _ us hl => match us, hl with | [_], _ => rfl
  have T : Txt K mg (nth (C0 K) [C0 K, A1 K, A1 K, A1 K, A1 K, C5 K, A1 K, A1 K, A1 K, A1 K, A1 K, C11 K, C12 K, C13 K]) (nth (A1 K) [A1 K, A1 K, A2 K, A3 K, A4 K, A5 K, A6 K, A1 K, A8 K, A9 K, A10 K, A11 K, A1 K, A13 K, A1 K, A1 K, A1 K, A17 K, A18 K, A19 K, A20 K, A21 K, A22 K, A23 K, A24 K, A25 K, A26 K, A27 K, A28 K, A29 K, A30 K, A31 K, A32 K, A33 K, A34 K, A35 K, A36 K, A37 K, A38 K, A39 K, A40 K, A41 K, A42 K, A43 K, A44 K, A45 K, A46 K, A47 K, A48 K]) (nth d1 [d1, d1, d2, d3, d4, d5, d6, d1, d8, d9, d10, d11, d1, d13, d1, d1, d1, d17, d18, d19, d20, d21, d22, d23, d24, d25, d26, d27, d28, d29, d30, d31, d32, d33, d34, d35, d36, d37, d38, d39, d40, d41, d42, d43, d44, d45, d46, d47, d48]) := {
    F_BadReading___init__ := F1
    k_BadReading___init__ := c0
    b_BadReading___init__ := b1
    F_BadLine___init__ := F2
    k_BadLine___init__ := c1
    b_BadLine___init__ := b2
    F_BadWork___init__ := F3
    k_BadWork___init__ := c2
    b_BadWork___init__ := b3
    F_deep := F4
    g_deep := bNs_some X G c3
    k_deep := c4
    b_deep := b4
    F_is_word := F5
    g_is_word := bNs_some X G c5
    k_is_word := c6
    b_is_word := b5
    F_Lines___init__ := F6
    k_Lines___init__ := c7
    b_Lines___init__ := b6
    F_Lines_line_words := F8
    k_Lines_line_words := c8
    b_Lines_line_words := b8
    F_Lines_first_word := F9
    k_Lines_first_word := c9
    b_Lines_first_word := b9
    F_Lines_many_words := F10
    k_Lines_many_words := c10
    b_Lines_many_words := b10
    F_Lines_word_at := F11
    k_Lines_word_at := c11
    b_Lines_word_at := b11
    F_Lines_fail_at := F13
    k_Lines_fail_at := c12
    b_Lines_fail_at := b13
    F_Lines_want_word := F17
    k_Lines_want_word := c13
    b_Lines_want_word := b17
    F_Lines_close_at := F18
    k_Lines_close_at := c14
    b_Lines_close_at := b18
    F_no_more := F19
    g_no_more := bNs_some X G c15
    k_no_more := c16
    b_no_more := b19
    F_write_reading := F20
    g_write_reading := bNs_some X G c17
    k_write_reading := c18
    b_write_reading := b20
    F_write_work := F21
    g_write_work := bNs_some X G c19
    k_write_work := c20
    b_write_work := b21
    F_pick_pair_at := F22
    g_pick_pair_at := bNs_some X G c21
    k_pick_pair_at := c22
    b_pick_pair_at := b22
    F_reading_row := F23
    g_reading_row := bNs_some X G c23
    k_reading_row := c24
    b_reading_row := b23
    F_read_reading := F24
    g_read_reading := bNs_some X G c25
    k_read_reading := c26
    b_read_reading := b24
    F_read_work := F25
    g_read_work := bNs_some X G c27
    k_read_work := c28
    b_read_work := b25
    F__law_source := F26
    g__law_source := bNs_some X G c29
    k__law_source := c30
    b__law_source := b26
    F__law_next := F27
    g__law_next := bNs_some X G c31
    k__law_next := c32
    b__law_next := b27
    F__law_pick := F28
    g__law_pick := bNs_some X G c33
    k__law_pick := c34
    b__law_pick := b28
    F__law_one_in := F29
    g__law_one_in := bNs_some X G c35
    k__law_one_in := c36
    b__law_one_in := b29
    F__law_one_of := F30
    g__law_one_of := bNs_some X G c37
    k__law_one_of := c38
    b__law_one_of := b30
    F__law_letter := F31
    g__law_letter := bNs_some X G c39
    k__law_letter := c40
    b__law_letter := b31
    F__law_word := F32
    g__law_word := bNs_some X G c41
    k__law_word := c42
    b__law_word := b32
    F__law_words := F33
    g__law_words := bNs_some X G c43
    k__law_words := c44
    b__law_words := b33
    F__law_lists := F34
    g__law_lists := bNs_some X G c45
    k__law_lists := c46
    b__law_lists := b34
    F__law_same := F35
    g__law_same := bNs_some X G c47
    k__law_same := c48
    b__law_same := b35
    F__law_is_word := F36
    g__law_is_word := bNs_some X G c49
    k__law_is_word := c50
    b__law_is_word := b36
    F__law_reading_line := F37
    g__law_reading_line := bNs_some X G c51
    k__law_reading_line := c52
    b__law_reading_line := b37
    F__law_pair_of := F38
    g__law_pair_of := bNs_some X G c53
    k__law_pair_of := c54
    b__law_pair_of := b38
    F__law_read := F39
    g__law_read := bNs_some X G c55
    k__law_read := c56
    b__law_read := b39
    F__law_error := F40
    g__law_error := bNs_some X G c57
    k__law_error := c58
    b__law_error := b40
    F__law_asked_work := F41
    g__law_asked_work := bNs_some X G c59
    k__law_asked_work := c60
    b__law_asked_work := b41
    F__law_asked_line := F42
    g__law_asked_line := bNs_some X G c61
    k__law_asked_line := c62
    b__law_asked_line := b42
    F__law_wide_reading := F43
    g__law_wide_reading := bNs_some X G c63
    k__law_wide_reading := c64
    b__law_wide_reading := b43
    F__law_bent_line := F44
    g__law_bent_line := bNs_some X G c65
    k__law_bent_line := c66
    b__law_bent_line := b44
    F__law_bent_lines := F45
    g__law_bent_lines := bNs_some X G c67
    k__law_bent_lines := c68
    b__law_bent_lines := b45
    F__law_there_and_back := F46
    g__law_there_and_back := bNs_some X G c69
    k__law_there_and_back := c70
    b__law_there_and_back := b46
    F__law_round := F47
    g__law_round := bNs_some X G c71
    k__law_round := c72
    b__law_round := b47
    F_law := F48
    g_law := bNs_some X G c73
    k_law := c74
    b_law := b48
    gs_PICKS_TOLD := bTopTup_ok X G c75
    xc5 := bExcC_ok c76
    kt5_BadLine := bKit_ok c77
    kt5_ValueError := bKit_ok c78
    kt5_BadWork := bKit_ok c79
    kt5_BadReading := bKit_ok c80
    kt5_AcrossError := bKit_ok c81
    xm5_AcrossError := bExm_ok c82
    z_isinstance := bNs_none X G c83
    z_tuple := bNs_none X G c84
    z_list := bNs_none X G c85
    z_str := bNs_none X G c86
    z_len := bNs_none X G c87
    z_int := bNs_none X G c88
    z_range := bNs_none X G c89
    z_sum := bNs_none X G c90
    z_abs := bNs_none X G c91
    z_bool := bNs_none X G c92
    z_all := bNs_none X G c93
    z_ValueError := bNs_none X G c94
    g_AcrossError := bNs_some X G c95
    bx0 := bBase_ok c96
    g_BadReading := bNs_some X G c97
    x12 := bOex_ok c98
    i12 := bFind_ok c99
    t12 := bTyp_ok c100
    xn12_number := bFind_ok c101
    g_BadLine := bNs_some X G c102
    x5 := bOex_ok c103
    i5 := bFind_ok c104
    t5 := bTyp_ok c105
    xn5_line := bFind_ok c106
    xn5_word := bFind_ok c107
    g_BadWork := bNs_some X G c108
    x13 := bOex_ok c109
    i13 := bFind_ok c110
    t13 := bTyp_ok c111
    xn13_number := bFind_ok c112
    g_Lines := bNs_some X G c113
    c11 := bCls_ok c114
    ow11 := bOwn_ok c115
    n11_texts := bFind_ok c116
    n11_place := bFind_ok c117
    m11 := bMk_ok c118
    mm11_line_words := bMeth_ok c119
    mm11_first_word := bMeth_ok c120
    mm11_many_words := bMeth_ok c121
    mm11_word_at := bMeth_ok c122
    mm11_fail_at := bMeth_ok c123
    mm11_want_word := bMeth_ok c124
    mm11_close_at := bMeth_ok c125
  }
  exact ⟨_, fun s v => (FunD.bindsA (ps := ["script"]) D48 fun _ _ _ _ _ _ us hl => match us, hl with | [_], _ => rfl) s [v] rfl, fun base _ _ => ⟨_, ok_law T⟩⟩
end A07J
open PySem PySem.W PySem.Calls PyProof.Rows Kp in
set_option maxRecDepth 100000 in
set_option maxHeartbeats 0 in
theorem PySem.Challenge.cw_keptacross_k07_work_lines_holds : PySem.Challenge.rw_keptacross_k07_work_lines.Holds := by
  w_on; o_law
  refine HandSHeadRun.head_any (r := OpenLaw.row PySem.Challenge.rw_keptacross_k07_work_lines) (q := view (OpenLaw.row PySem.Challenge.rw_keptacross_k07_work_lines).prog [44]) (H := hookK 7 A07J.chks A07J.fns) (ob := A07J.ob) (M := 20000) (loose := A07J.names) (d := HandSHeadRun.topDef (OpenLaw.row PySem.Challenge.rw_keptacross_k07_work_lines).prog 44) (kwd := []) A07J.ob_eq
    (by kernel_rfl) (fun s => by kernel_rfl) A07J.run (by kernel_rfl) (by kernel_rfl) (by kernel_rfl) (by rfl) (by first | assumption | decide +kernel) (by decide +kernel) ⟨rfl, rfl, rfl, rfl, rfl, by decide +kernel⟩ ?hw ?hc
  case hw => w_witness2
  case hc =>
    refine walk_endK (l := PySem.Challenge.rw_keptacross_k07_work_lines) (n := 63) (k := 13) (x := "script") (f := A07.f_law) rfl (by decide) (by kernel_rfl) ⟨rfl, by decide, by decide⟩ (fun w mg fa h K KX c G hm => ?_) (fun ns hl => A07.law_true ns hl)
    have hm2 : mg ("law" : PySem.Str) = some (.ref fa) := by
      have e : (HandSHeadRun.topDef (OpenLaw.row PySem.Challenge.rw_keptacross_k07_work_lines).prog 44).name = ("law" : PySem.Str) := by kernel_rfl
      rw [← e]
      exact hm
    obtain ⟨fd, hb, hF⟩ := A07J.all_mk (P := (PySem.Challenge.rw_keptacross_k07_work_lines).prog) (w := w) KX G hm2 c
    exact ⟨fd, hb, fun base KB NB => let ⟨cl, z⟩ := hF base KB NB; ⟨cl, FnOk.g z⟩⟩
#print axioms PySem.Challenge.cw_keptacross_k07_work_lines_holds
