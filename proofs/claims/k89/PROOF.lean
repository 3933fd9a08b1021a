import PyProof.Rows.All
import Wide.All
import OpenK.AllK
import Wide.FinOn
import HandS.ForMost
import HandS.WordsExc
import HandS.Exc
import HandS.HeadHook1
import KE.KDictKeyed
import HandS.TupAny
import HandS.TupMul
import HandS.List
import KE.KRevSl
import HandS.Walk
import HandS.Flow
import HandS.Ends
import HandS.HeadEnd
import HandS.Defaults
import HandS.Style
import HandS.SortInts
import HandS.IsInst
import HandS.Conv
import HandS.Wide
import HandS.Zip
import KE.GoesEnum
import KE.GoesMore
import HandS.SortKw
import HandS.Dict
import PyProof.TupleOfSeq
import HandS.Head0
import HandS.Head1
import HandS.Head2
import HandS.HeadHook2
import HandS.ClsMeth
import HandS.Deep
import KE.KIndexOf
import KE.SortData
import PyProof.ReprRoads
import KE.KDictCopyH
import KE.KDictSum
import HandS.TupLen
import HandS.DictComp
import KE.DataMinMax
import KE.DatumOrd
import KE.KDictPairs
import HandS.TupSets
import KE.KDictWalk
import KE.KDictDisplayH
import HandS.More
import HandS.SetFor
import HandS.Strs
import PyProof.InstNe
import PyProof.DictMoreH
import HandS.Sort
import PySem.Challenge.RW_layertold_k89_whole_plans_as_likely_as_t
set_option Elab.async false
set_option linter.all false
set_option maxRecDepth 100000
set_option maxHeartbeats 4000000
/-! DL1: data D by value, the store MS of what may change, and how both lie in the layer's abstract heap; expressions. -/
namespace DL
open PySem PySem.Spec PyProof.Rows L2
inductive D where
  | non | bl (b : Bool) | int (i : Int) | str (x : Str)
  | tup (xs : List D) | lst (xs : List D)
  | dic (ks : List Key) (xs : List D)
  | dicT (ks : List NestedKey) (xs : List D)
  | obj (C : Str) (ns : List Str) (xs : List D)
  | ref (a : Addr)
  | wtup (xs : List D)
/-- a tuple that has no dict of its own -/
def TupAt (K : PySem.W.Frag) (F : Hp) (a : Addr) (vs : List V) : Prop :=
  (∃ o, F a = some (.frz o (.tup vs)) ∧ o.dict = none) ∨
    ∃ (o : Obj) (its : Array Value) (n : Nat), K.lookup a = some o ∧ o.cls = .type "tuple" ∧ o.data = .seq its n ∧ its.size ≤ sizeLine ∧ Vals vs its.toList ∧ o.dict = none
theorem TupAt.sq {K : PySem.W.Frag} {F : Hp} {a : Addr} {vs : List V} (h : TupAt K F a vs) : SqT K F a vs := by
  rcases h with ⟨o, h, _⟩ | ⟨o, its, n, h1, h2, h3, h4, h5, _⟩
  · exact .inl (.inr ⟨o, h⟩)
  · exact .inr ⟨o, its, n, h1, h2, h3, h4, h5⟩
/-! ### dicts whose keys are tuples, nested -/
mutual
/-- a key that is a nested tuple of numbers, None -/
inductive NkV (K : PySem.W.Frag) (F : Hp) : NestedKey → V → Prop
  | none : NkV K F .none .non
  | num (i : Int) : NkV K F (.num i) (.int i)
  | tup {ks : List NestedKey} {a : Addr} {vs : List V} : TupAt K F a vs → NkVs K F ks vs → NkV K F (.tup ks) (.ref a)
inductive NkVs (K : PySem.W.Frag) (F : Hp) : List NestedKey → List V → Prop
  | nil : NkVs K F [] []
  | cons {k : NestedKey} {v : V} {ks : List NestedKey} {vs : List V} : NkV K F k v → NkVs K F ks vs → NkVs K F (k :: ks) (v :: vs)
end
/-- the object at a is od -/
def NkO (a : Addr) (od : Obj) : HO := .ext fun h => h.get? a = some od
/-- od is a dict of these keys (where they stand) and values -/
structure NkF (a : Addr) (od : Obj) (kvs : List (NestedKey × Addr × V)) : Prop where
  ex : od.ExactDict
  sys : (a == sysModules) = false
  dat : ∃ (es : Array DictEntry) (ep : Nat) (xs : List (NestedKey × Addr × Value)), od.data = .dict es ep ∧ (∀ w : World, es.toList = xs.map fun x => ⟨x.1.hash w, .ref x.2.1, x.2.2⟩) ∧
    Paired (fun p q => p.1 = q.1 ∧ p.2.1 = q.2.1 ∧ RelV p.2.2 q.2.2) kvs xs ∧ (xs.map (·.1)).Nodup
  dep : ∀ p ∈ kvs, p.1.depth ≤ 8
  sz : kvs.length ≤ sizeLine
mutual
/-- a datum by value, in the part of the heap that never changes any more -/
inductive Rep (K : PySem.W.Frag) (F : Hp) : D → V → Prop
  | non : Rep K F .non .non
  | bl (b : Bool) : Rep K F (.bl b) (.bl b)
  | int (i : Int) : Rep K F (.int i) (.int i)
  | str (x : Str) : Rep K F (.str x) (.str x)
  | tup {ds : List D} {a : Addr} {vs : List V} : TupAt K F a vs → Reps K F ds vs → Rep K F (.tup ds) (.ref a)
  | lst {ds : List D} {a : Addr} {vs : List V} : Rd F a (.lst vs) → Reps K F ds vs → Rep K F (.lst ds) (.ref a)
  | dic {ks : List Key} {ds : List D} {a : Addr} {kvs : List (Key × V)} : F a = some (.dK kvs) → kvs.map (·.1) = ks → Reps K F ds (kvs.map (·.2)) → Rep K F (.dic ks ds) (.ref a)
  | dicT {ks : List NestedKey} {ds : List D} {a : Addr} {od : Obj} {kvs : List (NestedKey × Addr × V)} : F a = some (NkO a od) → NkF a od kvs → kvs.map (·.1) = ks → (∀ p ∈ kvs, NkV K F p.1 (.ref p.2.1)) → Reps K F ds (kvs.map (·.2.2)) → Rep K F (.dicT ks ds) (.ref a)
  | obj {C : Str} {ns : List Str} {ds : List D} {a dx : Addr} {fs : List (Str × V)} : F a = some (.ins (He.ga K C) dx fs) → fs.map (·.1) = ns → Reps K F ds (fs.map (·.2)) → Rep K F (.obj C ns ds) (.ref a)
  | ref (a : Addr) : Rep K F (.ref a) (.ref a)
  | wtup {ds : List D} {a : Addr} {vs : List V} : SqT K F a vs → Reps K F ds vs → Rep K F (.wtup ds) (.ref a)
inductive Reps (K : PySem.W.Frag) (F : Hp) : List D → List V → Prop
  | nil : Reps K F [] []
  | cons {d : D} {v : V} {ds : List D} {vs : List V} : Rep K F d v → Reps K F ds vs → Reps K F (d :: ds) (v :: vs)
end
/-- F' knows all that F knows -/
def ExF (F F' : Hp) : Prop := ∀ a o, F a = some o → F' a = some o
theorem ExF.refl (F : Hp) : ExF F F := fun _ _ h => h
theorem ExF.trans {F F1 F2 : Hp} (a : ExF F F1) (b : ExF F1 F2) : ExF F F2 := fun x o h => b x o (a x o h)
theorem ExF.new {F : Hp} {p : Addr} {o : HO} (h : F p = none) : ExF F (upd F p o) := fun a u e => by
  rw [upd_ne (ne_of_none e h)]
  exact e
theorem exf_rd {F F' : Hp} {a : Addr} {u : HO} (e : ExF F F') (h : Rd F a u) : Rd F' a u := by
  rcases h with h | ⟨o, h⟩
  · exact .inl (e a _ h)
  · exact .inr ⟨o, e a _ h⟩
theorem exf_l {K : PySem.W.Frag} {F F' : Hp} {a : Addr} {xs : List V} (e : ExF F F') (h : SqL K F a xs) : SqL K F' a xs := by
  rcases h with h | h
  · exact .inl (exf_rd e h)
  · exact .inr h
theorem exf_t {K : PySem.W.Frag} {F F' : Hp} {a : Addr} {xs : List V} (e : ExF F F') (h : SqT K F a xs) : SqT K F' a xs := by
  rcases h with h | h
  · exact .inl (exf_rd e h)
  · exact .inr h
theorem exf_ta {K : PySem.W.Frag} {F F' : Hp} {a : Addr} {xs : List V} (e : ExF F F') (h : TupAt K F a xs) : TupAt K F' a xs := by
  rcases h with ⟨o, h, d⟩ | h
  · exact .inl ⟨o, e a _ h, d⟩
  · exact .inr h
section
variable {K : PySem.W.Frag} {F F' : Hp}
mutual
theorem NkV.mono (e : ExF F F') : ∀ (k : NestedKey) (v : V), NkV K F k v → NkV K F' k v
  | .none, _, h => by cases h; exact .none
  | .num i, _, h => by cases h; exact .num i
  | .text x, _, h => by cases h
  | .tup ks, _, h => by
    cases h with
    | tup h1 h2 => exact .tup (exf_ta e h1) (NkVs.mono e ks _ h2)
theorem NkVs.mono (e : ExF F F') : ∀ (ks : List NestedKey) (vs : List V), NkVs K F ks vs → NkVs K F' ks vs
  | [], _, h => by cases h; exact .nil
  | k :: ks, _, h => by
    cases h with
    | cons h1 h2 => exact .cons (NkV.mono e k _ h1) (NkVs.mono e ks _ h2)
end
mutual
theorem Rep.mono (e : ExF F F') : ∀ (d : D) (v : V), Rep K F d v → Rep K F' d v
  | .non, _, h => by cases h; exact .non
  | .bl b, _, h => by cases h; exact .bl b
  | .int i, _, h => by cases h; exact .int i
  | .str x, _, h => by cases h; exact .str x
  | .tup ds, _, h => by
    cases h with
    | tup hs ha => exact .tup (exf_ta e hs) (Reps.mono e ds _ ha)
  | .wtup ds, _, h => by
    cases h with
    | wtup hs ha => exact .wtup (exf_t e hs) (Reps.mono e ds _ ha)
  | .lst ds, _, h => by
    cases h with
    | lst hs ha => exact .lst (exf_rd e hs) (Reps.mono e ds _ ha)
  | .dic ks ds, _, h => by
    cases h with
    | dic h1 h2 h3 => exact .dic (e _ _ h1) h2 (Reps.mono e ds _ h3)
  | .dicT ks ds, _, h => by
    cases h with
    | dicT h1 h2 h3 h4 h5 => exact .dicT (e _ _ h1) h2 h3 (fun p hp => NkV.mono e _ _ (h4 p hp)) (Reps.mono e ds _ h5)
  | .obj C ns ds, _, h => by
    cases h with
    | obj h1 h2 h3 => exact .obj (e _ _ h1) h2 (Reps.mono e ds _ h3)
  | .ref a, _, h => by cases h; exact .ref a
theorem Reps.mono (e : ExF F F') : ∀ (ds : List D) (vs : List V), Reps K F ds vs → Reps K F' ds vs
  | [], _, h => by cases h; exact .nil
  | d :: ds, _, h => by
    cases h with
    | cons h1 h2 => exact .cons (Rep.mono e d _ h1) (Reps.mono e ds _ h2)
end
theorem Rep.up {d : D} {v : V} (h : Rep K F d v) (e : ExF F F') : Rep K F' d v := Rep.mono e d v h
theorem Reps.up {ds : List D} {vs : List V} (h : Reps K F ds vs) (e : ExF F F') : Reps K F' ds vs := Reps.mono e ds vs h
theorem Reps.length : ∀ {ds : List D} {vs : List V}, Reps K F ds vs → ds.length = vs.length
  | [], [], _ => rfl
  | _ :: _, _ :: _, h => by
    cases h with
    | cons _ h2 => simp [Reps.length h2]
  | [], _ :: _, h => by cases h
  | _ :: _, [], h => by cases h
theorem Reps.append : ∀ {ds es : List D} {vs us : List V}, Reps K F ds vs → Reps K F es us → Reps K F (ds ++ es) (vs ++ us)
  | [], _, _, _, h, g => by
    cases h
    exact g
  | d :: ds, _, _, _, h, g => by
    cases h with
    | cons h1 h2 => exact .cons h1 (Reps.append h2 g)
theorem Reps.get : ∀ {ds : List D} {vs : List V} {i : Nat} {d : D}, Reps K F ds vs → ds[i]? = some d → ∃ v, vs[i]? = some v ∧ Rep K F d v
  | [], _, _, _, _, e => by simp at e
  | d :: ds, _, 0, x, h, e => by
    cases h with
    | cons h1 h2 =>
      have : d = x := by simpa using e
      subst this
      exact ⟨_, rfl, h1⟩
  | d :: ds, _, i + 1, x, h, e => by
    cases h with
    | cons h1 h2 =>
      obtain ⟨v, a, b⟩ := Reps.get (i := i) (d := x) h2 (by simpa using e)
      exact ⟨v, by simpa using a, b⟩
theorem Reps.drop : ∀ {ds : List D} {vs : List V} (n : Nat), Reps K F ds vs → Reps K F (ds.drop n) (vs.drop n)
  | _, _, 0, h => h
  | [], _, _ + 1, h => by cases h; exact .nil
  | _ :: _, _, n + 1, h => by
    cases h with
    | cons _ h2 => exact Reps.drop n h2
theorem Reps.take : ∀ {ds : List D} {vs : List V} (n : Nat), Reps K F ds vs → Reps K F (ds.take n) (vs.take n)
  | _, _, 0, _ => .nil
  | [], _, _ + 1, h => by cases h; exact .nil
  | _ :: _, _, n + 1, h => by
    cases h with
    | cons h1 h2 => exact .cons h1 (Reps.take n h2)
theorem Reps.set {d : D} {v : V} (r : Rep K F d v) : ∀ {ds : List D} {vs : List V} (i : Nat), Reps K F ds vs → Reps K F (ds.set i d) (vs.set i v)
  | [], _, _, h => by cases h; exact .nil
  | _ :: _, _, 0, h => by
    cases h with
    | cons _ h2 => exact .cons r h2
  | _ :: _, _, i + 1, h => by
    cases h with
    | cons h1 h2 => exact .cons h1 (Reps.set r i h2)
theorem Reps.eraseIdx : ∀ {ds : List D} {vs : List V} (i : Nat), Reps K F ds vs → Reps K F (ds.eraseIdx i) (vs.eraseIdx i)
  | [], _, _, h => by cases h; exact .nil
  | _ :: _, _, 0, h => by
    cases h with
    | cons _ h2 => exact h2
  | _ :: _, _, i + 1, h => by
    cases h with
    | cons h1 h2 => exact .cons h1 (Reps.eraseIdx i h2)
theorem Reps.reverse : ∀ {ds : List D} {vs : List V}, Reps K F ds vs → Reps K F ds.reverse vs.reverse
  | [], _, h => by cases h; exact .nil
  | d :: ds, _, h => by
    cases h with
    | cons h1 h2 =>
      rw [List.reverse_cons, List.reverse_cons]
      exact (Reps.reverse h2).append (.cons h1 .nil)
theorem Reps.dropLast : ∀ {ds : List D} {vs : List V}, Reps K F ds vs → Reps K F ds.dropLast vs.dropLast
  | [], _, h => by cases h; exact .nil
  | [_], _, h => by
    cases h with
    | cons _ h2 => cases h2; exact .nil
  | d :: e :: ds, _, h => by
    cases h with
    | cons h1 h2 =>
      cases h2 with
      | cons h3 h4 => exact .cons h1 (Reps.dropLast (.cons h3 h4))
theorem Reps.rep {ds : List D} {vs : List V} (h : Reps K F ds vs) : ∀ k : Nat, Reps K F (List.replicate k ds).flatten (List.replicate k vs).flatten
  | 0 => .nil
  | k + 1 => by
    rw [List.replicate_succ, List.replicate_succ, List.flatten_cons, List.flatten_cons]
    exact h.append (Reps.rep h k)
theorem Reps.ints : ∀ {ns : List Int} {vs : List V}, Reps K F (ns.map D.int) vs → vs = ns.map V.int
  | [], _, h => by cases h; rfl
  | n :: ns, _, h => by
    cases h with
    | cons h1 h2 =>
      cases h1
      rw [Reps.ints h2]
      rfl
theorem Reps.of_ints : ∀ (ns : List Int), Reps K F (ns.map D.int) (ns.map V.int)
  | [] => .nil
  | n :: ns => .cons (.int n) (Reps.of_ints ns)
theorem Reps.bls : ∀ {ns : List Bool} {vs : List V}, Reps K F (ns.map D.bl) vs → vs = ns.map V.bl
  | [], _, h => by cases h; rfl
  | n :: ns, _, h => by
    cases h with
    | cons h1 h2 =>
      cases h1
      rw [Reps.bls h2]
      rfl
theorem Reps.none_of {ds : List D} {vs : List V} (h : Reps K F ds vs) {i : Nat} (e : ds[i]? = none) : vs[i]? = none := by
  have := h.length
  have := List.getElem?_eq_none_iff.mp e
  exact List.getElem?_eq_none_iff.mpr (by omega)
theorem Reps.nil_iff {ds : List D} {vs : List V} (h : Reps K F ds vs) : vs = [] ↔ ds = [] := by
  have := h.length
  constructor
  · intro e
    subst e
    exact List.length_eq_zero_iff.mp (by simpa using this)
  · intro e
    subst e
    exact List.length_eq_zero_iff.mp (by simpa using this.symm)
end
/-- what may change; opq φ: a thing that is known by what stays true of it, with its own objects -/
inductive MO where
  | lst (ds : List D)
  | dic (ks : List Key) (ds : List D)
  | dicT (ks : List NestedKey) (ds : List D)
  | ins (C : Str) (ns : List Str) (ds : List D)
  | opq (φ : Hp → Addr → List Addr → Prop)
abbrev MS := Addr → Option MO
def MS.set (S : MS) (a : Addr) (m : MO) : MS := fun b => if b = a then some m else S b
def MS.del (S : MS) (a : Addr) : MS := fun b => if b = a then none else S b
theorem MS.set_same {S : MS} {a : Addr} {m : MO} : (S.set a m) a = some m := if_pos rfl
theorem MS.set_ne {S : MS} {a b : Addr} {m : MO} (h : b ≠ a) : (S.set a m) b = S b := if_neg h
theorem MS.set_set {S : MS} {a : Addr} {m n : MO} : (S.set a m).set a n = S.set a n := by
  funext b
  unfold MS.set
  split <;> rfl
theorem MS.set_comm {S : MS} {a b : Addr} {m n : MO} (h : a ≠ b) : (S.set a m).set b n = (S.set b n).set a m := by
  funext c
  unfold MS.set
  by_cases h1 : c = a
  · subst h1
    rw [if_neg h, if_pos rfl, if_pos rfl]
  · by_cases h2 : c = b
    · subst h2
      rw [if_pos rfl, if_neg h1, if_pos rfl]
    · rw [if_neg h2, if_neg h1, if_neg h1, if_neg h2]
theorem MS.del_set {S : MS} {a : Addr} {m : MO} (h : S a = none) : (S.set a m).del a = S := by
  funext b
  by_cases e : b = a
  · subst e
    show (if b = b then none else S.set b m b) = S b
    rw [if_pos rfl, h]
  · simp only [MS.set, MS.del, if_neg e]
theorem MS.del_set_ne {S : MS} {a b : Addr} {m : MO} (h : a ≠ b) : (S.set a m).del b = (S.del b).set a m := by
  funext c
  by_cases h1 : c = a
  · simp only [MS.set, MS.del, if_pos h1]
    rw [h1, if_neg h]
  · by_cases h2 : c = b
    · simp only [MS.set, MS.del, if_pos h2, if_neg h1]
    · simp only [MS.set, MS.del, if_neg h2, if_neg h1]
theorem MS.ne_of {S : MS} {a b : Addr} {m : MO} (h : S a = some m) (h' : S b = none) : a ≠ b := by
  intro e
  subst e
  rw [h] at h'
  cases h'
/-- S has all of S0 -/
def Sub (S0 S : MS) : Prop := ∀ a m, S0 a = some m → S a = some m
theorem Sub.refl (S : MS) : Sub S S := fun _ _ h => h
theorem Sub.trans {S S1 S2 : MS} (a : Sub S S1) (b : Sub S1 S2) : Sub S S2 := fun x m h => b x m (a x m h)
theorem Sub.set {S : MS} {a : Addr} {m : MO} (h : S a = none) : Sub S (S.set a m) := fun b n e => by
  rw [MS.set_ne (MS.ne_of e h)]
  exact e
theorem Sub.set2 {S0 S : MS} {a : Addr} {m : MO} (s : Sub S0 S) (h : S0 a = none) : Sub S0 (S.set a m) := fun b n e => by
  rw [MS.set_ne (MS.ne_of e h)]
  exact s b n e
theorem Sub.del {S : MS} {a : Addr} : Sub (S.del a) S := fun b n e => by
  unfold MS.del at e
  by_cases h : b = a
  · rw [if_pos h] at e
    cases e
  · rw [if_neg h] at e
    exact e
theorem Sub.del2 {S0 S : MS} {a : Addr} (s : Sub S0 S) (h : S0 a = none) : Sub S0 (S.del a) := fun b n e => by
  unfold MS.del
  rw [if_neg (MS.ne_of e h)]
  exact s b n e
theorem Sub.none {S0 S : MS} {a : Addr} (s : Sub S0 S) (h : S a = none) : S0 a = none := by
  cases q : S0 a with
  | none => rfl
  | some m =>
    rw [s a m q] at h
    cases h
def MOk (K : PySem.W.Frag) (F : Hp) (S : MS) (H : Hp) (a : Addr) : MO → Prop
  | .lst ds => ∃ vs, H a = some (.lst vs) ∧ Reps K F ds vs
  | .dic ks ds => ∃ kvs : List (Key × V), H a = some (.dK kvs) ∧ kvs.map (·.1) = ks ∧ Reps K F ds (kvs.map (·.2))
  | .dicT ks ds => ∃ (od : Obj) (kvs : List (NestedKey × Addr × V)), H a = some (NkO a od) ∧ NkF a od kvs ∧ kvs.map (·.1) = ks ∧ (∀ p ∈ kvs, NkV K F p.1 (.ref p.2.1)) ∧ Reps K F ds (kvs.map (·.2.2))
  | .ins C ns ds => ∃ (dx : Addr) (fs : List (Str × V)), H a = some (.ins (He.ga K C) dx fs) ∧ fs.map (·.1) = ns ∧ Reps K F ds (fs.map (·.2))
  | .opq φ => ∃ own : List Addr, (∀ c ∈ own, F c = none ∧ S c = none ∧ c ≠ a ∧ (H c).isSome = true) ∧ (H a).isSome = true ∧ ∀ H' : Hp, (∀ b, b = a ∨ b ∈ own → H' b = H b) → φ H' a own
def isOpq : MO → Bool
  | .opq _ => true
  | _ => false
structure FS (K : PySem.W.Frag) (F : Hp) (S : MS) (H : Hp) : Prop where
  fr : ∀ a o, F a = some o → H a = some o
  st : ∀ a m, S a = some m → F a = none ∧ MOk K F S H a m
  one : ∀ a b m n, S a = some m → S b = some n → isOpq m = true → isOpq n = true → a = b
section
variable {K : PySem.W.Frag} {F F' : Hp} {S S' : MS} {H H' : Hp}
theorem FS.notS (x : FS K F S H) {a : Addr} (h : H a = none) : S a = none ∧ F a = none := by
  refine ⟨?_, ?_⟩
  · cases q : S a with
    | none => rfl
    | some m =>
      obtain ⟨_, ok⟩ := x.st a m q
      cases m with
      | lst ds => obtain ⟨vs, e, _⟩ := ok; rw [e] at h; cases h
      | dic ks ds => obtain ⟨vs, e, _⟩ := ok; rw [e] at h; cases h
      | dicT ks ds => obtain ⟨od, vs, e, _⟩ := ok; rw [e] at h; cases h
      | ins C ns ds => obtain ⟨dx, vs, e, _⟩ := ok; rw [e] at h; cases h
      | opq φ => obtain ⟨own, _, e, _⟩ := ok; rw [h] at e; cases e
  · cases q : F a with
    | none => rfl
    | some o =>
      rw [x.fr a o q] at h
      cases h
/-- a thing known by what is true of it, in another state -/
theorem opq_move {a : Addr} {φ : Hp → Addr → List Addr → Prop} (ok : MOk K F S H a (.opq φ)) (ha : H' a = H a)
    (hc : ∀ c, F c = none → S c = none → c ≠ a → (H c).isSome = true → F' c = none ∧ S' c = none ∧ H' c = H c) : MOk K F' S' H' a (.opq φ) := by
  obtain ⟨own, ho, hs, hf⟩ := ok
  refine ⟨own, fun c h => ?_, by rw [ha]; exact hs, fun H'' hH => hf H'' fun b hb => ?_⟩
  · obtain ⟨h1, h2, h3, h4⟩ := ho c h
    obtain ⟨k1, k2, k3⟩ := hc c h1 h2 h3 h4
    exact ⟨k1, k2, h3, by rw [k3]; exact h4⟩
  · rw [hH b hb]
    rcases hb with rfl | hb
    · exact ha
    · obtain ⟨h1, h2, h3, h4⟩ := ho b hb
      exact (hc b h1 h2 h3 h4).2.2
/-- any thing that may change, in another state -/
theorem mok_move {a : Addr} {m : MO} (ok : MOk K F S H a m) (ex : ExF F F') (ha : H' a = H a)
    (hc : ∀ c, F c = none → S c = none → c ≠ a → (H c).isSome = true → F' c = none ∧ S' c = none ∧ H' c = H c) : MOk K F' S' H' a m := by
  cases m with
  | lst ds => obtain ⟨vs, e1, r⟩ := ok; exact ⟨vs, by rw [ha]; exact e1, r.up ex⟩
  | dic ks ds => obtain ⟨vs, e1, e2, r⟩ := ok; exact ⟨vs, by rw [ha]; exact e1, e2, r.up ex⟩
  | dicT ks ds => obtain ⟨od, vs, e1, e2, e3, e4, r⟩ := ok; exact ⟨od, vs, by rw [ha]; exact e1, e2, e3, fun p hp => NkV.mono ex _ _ (e4 p hp), r.up ex⟩
  | ins C ns ds => obtain ⟨dx, vs, e1, e2, r⟩ := ok; exact ⟨dx, vs, by rw [ha]; exact e1, e2, r.up ex⟩
  | opq φ => exact opq_move ok ha hc
theorem isSome_ne {a p : Addr} (h : (H a).isSome = true) (hp : H p = none) : a ≠ p := fun z => by
  rw [z, hp] at h
  cases h
/-- the frozen part grows by a new object -/
theorem FS.grow (x : FS K F S H) {p : Addr} {o : HO} (hp : H p = none) : FS K (upd F p o) S (upd H p o) := by
  obtain ⟨sp, fp⟩ := x.notS hp
  refine ⟨fun a u e => ?_, fun a m e => ?_, x.one⟩
  · by_cases h : a = p
    · subst h
      rw [upd_same] at e ⊢
      exact e
    · rw [upd_ne h] at e ⊢
      exact x.fr a u e
  · have hap : a ≠ p := MS.ne_of e sp
    obtain ⟨f, ok⟩ := x.st a m e
    exact ⟨by rw [upd_ne hap]; exact f, mok_move ok (ExF.new fp) (upd_ne hap) fun c h1 h2 h3 h4 => ⟨by rw [upd_ne (isSome_ne h4 hp)]; exact h1, h2, upd_ne (isSome_ne h4 hp)⟩⟩
/-- a new object that is forgotten -/
theorem FS.drop (x : FS K F S H) {p : Addr} {o : HO} (hp : H p = none) : FS K F S (upd H p o) := by
  obtain ⟨sp, fp⟩ := x.notS hp
  refine ⟨fun a u e => ?_, fun a m e => ?_, x.one⟩
  · rw [upd_ne (ne_of_none e fp)]
    exact x.fr a u e
  · have hap : a ≠ p := MS.ne_of e sp
    obtain ⟨f, ok⟩ := x.st a m e
    exact ⟨f, mok_move ok (ExF.refl F) (upd_ne hap) fun c h1 h2 h3 h4 => ⟨h1, h2, upd_ne (isSome_ne h4 hp)⟩⟩
/-- a new object that may change -/
theorem FS.alloc (x : FS K F S H) {p : Addr} {o : HO} {m : MO} (hp : H p = none) (nm : isOpq m = false) (ok : MOk K F (S.set p m) (upd H p o) p m) : FS K F (S.set p m) (upd H p o) := by
  obtain ⟨sp, fp⟩ := x.notS hp
  refine ⟨(x.drop hp).fr, fun a n e => ?_, fun a b u v h1 h2 h3 h4 => ?_⟩
  · by_cases h : a = p
    · subst h
      rw [MS.set_same] at e
      cases e
      exact ⟨fp, ok⟩
    · rw [MS.set_ne h] at e
      obtain ⟨f, k⟩ := x.st a n e
      exact ⟨f, mok_move k (ExF.refl F) (upd_ne h) fun c h1 h2 h3 h4 => ⟨h1, by rw [MS.set_ne (isSome_ne h4 hp)]; exact h2, upd_ne (isSome_ne h4 hp)⟩⟩
  · by_cases ha : a = p
    · subst ha
      rw [MS.set_same] at h1
      cases h1
      rw [nm] at h3
      cases h3
    · by_cases hb : b = p
      · subst hb
        rw [MS.set_same] at h2
        cases h2
        rw [nm] at h4
        cases h4
      · rw [MS.set_ne ha] at h1
        rw [MS.set_ne hb] at h2
        exact x.one a b u v h1 h2 h3 h4
/-- one that stands is changed -/
theorem FS.write (x : FS K F S H) {p : Addr} {o : HO} {m n : MO} (hp : S p = some m) (nm : isOpq n = false) (ok : MOk K F (S.set p n) (upd H p o) p n) : FS K F (S.set p n) (upd H p o) := by
  obtain ⟨fp, okp⟩ := x.st p m hp
  refine ⟨fun a u e => ?_, fun a k e => ?_, fun a b u v h1 h2 h3 h4 => ?_⟩
  · rw [upd_ne (ne_of_none e fp)]
    exact x.fr a u e
  · by_cases h : a = p
    · subst h
      rw [MS.set_same] at e
      cases e
      exact ⟨fp, ok⟩
    · rw [MS.set_ne h] at e
      obtain ⟨f, k'⟩ := x.st a k e
      have ne : ∀ c, S c = none → c ≠ p := fun c z q => by
        rw [q, hp] at z
        cases z
      exact ⟨f, mok_move k' (ExF.refl F) (upd_ne h) fun c h1 h2 h3 h4 => ⟨h1, by rw [MS.set_ne (ne c h2)]; exact h2, upd_ne (ne c h2)⟩⟩
  · by_cases ha : a = p
    · subst ha
      rw [MS.set_same] at h1
      cases h1
      rw [nm] at h3
      cases h3
    · by_cases hb : b = p
      · subst hb
        rw [MS.set_same] at h2
        cases h2
        rw [nm] at h4
        cases h4
      · rw [MS.set_ne ha] at h1
        rw [MS.set_ne hb] at h2
        exact x.one a b u v h1 h2 h3 h4
/-- a list that changes no more -/
theorem FS.freeze (x : FS K F S H) {p : Addr} {ds : List D} (hp : S p = some (.lst ds)) : ∃ vs, H p = some (.lst vs) ∧ Reps K F ds vs ∧ FS K (upd F p (.lst vs)) (S.del p) H := by
  obtain ⟨fp, vs, e, r⟩ := x.st p _ hp
  refine ⟨vs, e, r, fun a u h => ?_, fun a m h => ?_, fun a b u v h1 h2 => x.one a b u v (Sub.del a u h1) (Sub.del b v h2)⟩
  · by_cases ha : a = p
    · subst ha
      rw [upd_same] at h
      rw [e]
      exact h
    · rw [upd_ne ha] at h
      exact x.fr a u h
  · have h0 := Sub.del a m h
    have ha : a ≠ p := fun z => by
      subst z
      simp only [MS.del, if_pos] at h
      cases h
    obtain ⟨f, k⟩ := x.st a m h0
    have ne : ∀ c, S c = none → c ≠ p := fun c z q => by
      rw [q, hp] at z
      cases z
    refine ⟨by rw [upd_ne ha]; exact f, mok_move k (ExF.new fp) rfl fun c h1 h2 h3 h4 => ⟨by rw [upd_ne (ne c h2)]; exact h1, ?_, rfl⟩⟩
    simp only [MS.del, if_neg (ne c h2)]
    exact h2
theorem FS.sub (x : FS K F S H) {S0 : MS} (s : Sub S0 S) : FS K F S0 H :=
  ⟨x.fr, fun a m e => let ⟨f, k⟩ := x.st a m (s a m e); ⟨f, mok_move k (ExF.refl F) rfl fun c h1 h2 h3 h4 => ⟨h1, s.none h2, rfl⟩⟩, fun a b u v h1 h2 => x.one a b u v (s a u h1) (s b v h2)⟩
end
end DL
/-! DLT: what makes tuples, and that a tuple so made has no dict of its own. -/
namespace DL
open PySem PySem.Spec PyProof.Rows L2
/-- a new tuple's object -/
abbrev tupO (its : List Value) : Obj := { cls := .type "tuple", data := .seq its.toArray }
/-- the wish of a new tuple -/
def NewT (H : Hp) (xs : List V) (Q : VK) : Prop := ∀ p o, H p = none → o.dict = none → Q (.ref p) (upd H p (.frz o (.tup xs)))
section
variable {X : Cx} {pins : List (Addr × Obj)} {σ : L2.St} {H : Hp} {s : Shared} {Q : VK}
theorem newT_at {xs : List V} {its : List Value} (I : Inv X pins σ H s) (r : Vals xs its) (z : xs.length ≤ sizeLine) (q : NewT H xs Q) {t' : Nat} :
    EP X pins σ Q (.ref s.heap.objs.size) { s with heap := s.heap.push (tupO its), toks := t' } := by
  have hg := Heap.get?_push_size s.heap (o := tupO its) rfl
  refine ⟨.ref s.heap.objs.size, _, I.laid (t' := t') (o := .frz (tupO its) (.tup xs)) (fun b u e => Heap.get?_push_of_some _ e) (Nat.le_refl _) ?_, rfl, q _ (tupO its) (I.hok.fresh (Nat.le_refl _)) rfl⟩
  exact ⟨hg, z, its, r, IsTup.new _ _⟩
end
section
variable {X : Cx} {es : List Expr} {t : TA} {pos : Pos}
def tTupF (t : TA) : TE := fun σ H Q => t σ H fun xs H1 => xs.length ≤ sizeLine ∧ NewT H1 xs Q
theorem pe_tupF {x1} (h : PA X es t) : PE X (.Tuple es x1 pos) (tTupF t) := by
  refine ⟨fun pins s σ H Q I hq => ?_⟩
  exact wpAny_Tuple_spliced (thn (h.run pos pins s σ H _ I hq) fun us s1 ⟨xs, H1, I1, r, z, q⟩ => ⟨by rw [← r.length]; exact z, newT_at (t' := s1.toks) I1 r z q⟩)
/-- t + u -/
def rCatF (K : PySem.W.Frag) : R2 := fun x y H Q => ∃ a b xs ys, x = .ref a ∧ y = .ref b ∧ SqT K H a xs ∧ SqT K H b ys ∧ xs.length + ys.length ≤ sizeLine ∧
  (xs = [] → Q (.ref b) H) ∧ (xs ≠ [] → ys = [] → Q (.ref a) H) ∧ (xs ≠ [] → ys ≠ [] → NewT H (xs ++ ys) Q)
theorem op_catF : OpR X (binaryOp .Add) (rCatF X.K) := by
  intro pins s σ H x y v u Q I rx ry h
  obtain ⟨a, b, xs, ys, rfl, rfl, ha, hb, hz, q0, q1, q2⟩ := h
  cases rx
  cases ry
  obtain ⟨its, r1, p1, _⟩ := I.tuple ha
  obtain ⟨its2, r2, p2, _⟩ := I.tuple hb
  by_cases hx : xs = []
  · subst hx
    cases r1
    exact L2.cat_tup0 p1 p2 ⟨.ref b, H, I, rfl, q0 rfl⟩
  · refine HT.cat_tup p1 p2 (fun z => hx (r1.nil_iff.mp z)) (fun z => ⟨.ref a, H, I, rfl, q1 hx (r2.nil_iff.mp z)⟩) (fun z => ?_) (by rw [← r1.length, ← r2.length]; exact hz)
    exact newT_at (t' := s.toks) I (r1.append r2) (by rw [List.length_append]; exact hz) (q2 hx fun w => z (r2.nil_iff.mpr w))
/-- t[lo:hi] -/
def rSlF (K : PySem.W.Frag) : V → Option Int → Option Int → Hp → VK → Prop := fun x lo hi H Q => ∃ a xs, x = .ref a ∧ SqT K H a xs ∧
  (HT.sIx xs.length 0 lo = 0 ∧ HT.sIx xs.length xs.length hi = xs.length → Q (.ref a) H) ∧ (¬ (HT.sIx xs.length 0 lo = 0 ∧ HT.sIx xs.length xs.length hi = xs.length) → NewT H (cutV xs lo hi) Q)
theorem sl_tupF : SlR X (rSlF X.K) := by
  intro pins s σ H x v vl vu lo hi sl Q I rx hs pl pu h
  obtain ⟨a, xs, rfl, hx, q1, q2⟩ := h
  cases rx
  obtain ⟨its, r, ht, hz⟩ := I.tuple hx
  have hlen : its.toArray.size = xs.length := by rw [List.size_toArray]; exact r.length.symm
  refine ⟨"tuple", _, PyProof.Rows.slot_tuple_getitem.lookup, ht.typeIs, ?_⟩
  by_cases hw : HT.sIx xs.length 0 lo = 0 ∧ HT.sIx xs.length xs.length hi = xs.length
  · exact L2.getItem_tuple_whole ht hs pl pu (by rw [hlen]; exact hw) ⟨.ref a, H, I, rfl, q1 hw⟩
  · refine HT.getItem_tuple_cut ht hs pl pu (by rw [hlen]; exact hw) ?_ (by rw [hlen]; exact hz)
    rw [hlen]
    exact newT_at (t' := s.toks) I ((r.drop (HT.sIx xs.length 0 lo)).take (HT.sIx xs.length xs.length hi - HT.sIx xs.length 0 lo)) (Nat.le_trans (cutV_length xs lo hi) hz) (q2 hw)
/-- tuple(xs) -/
def rTupF (K : PySem.W.Frag) : List V → Hp → VK → Prop := fun xs H Q => ∃ p ys, xs = [.ref p] ∧ ((SqL K H p ys ∧ NewT H ys Q) ∨ (SqT K H p ys ∧ Q (.ref p) H))
theorem call_tupF : CallR X (.type "tuple") (rTupF X.K) := by
  intro pins s σ H xs us Q I r h
  obtain ⟨p, ys, rfl, h⟩ := h
  obtain ⟨u, rfl, rx⟩ := vals1 r
  cases rx
  rcases h with ⟨hq, q⟩ | ⟨hq, q⟩
  · obtain ⟨its, r', pl, hz⟩ := I.list hq
    have hlen := r'.length
    refine call_tuple_list pl.isList (fun h' kp => ?_) (by simp only [List.size_toArray] <;> omega)
    have I1 : Inv X pins σ H { s with heap := h' } := I.kept (t' := s.toks) kp
    exact newT_at (t' := s.toks) I1 r' hz q
  · obtain ⟨its, r', pl, hz⟩ := I.tuple hq
    exact call_tuple_same pl ⟨.ref p, H, I, rfl, q⟩
/-- t * k -/
def rRepF (K : PySem.W.Frag) : R2 := fun x y H Q => ∃ l k xs, x = .ref l ∧ y = .int k ∧ SqT K H l xs ∧ xs ≠ [] ∧ 2 ≤ k ∧ k ≤ 1000 ∧ xs.length ≤ 1000 ∧ NewT H (List.replicate k.toNat xs).flatten Q
theorem op_repF : OpR X (binaryOp .Mult) (rRepF X.K) := by
  intro pins s σ H x y v u Q I rx ry h
  obtain ⟨l, k, xs, rfl, rfl, hT, hne, h1, h2, hz, q⟩ := h
  cases rx
  obtain ⟨t, rfl⟩ := ry
  obtain ⟨its, r, ⟨⟨cls, dd, data, sl⟩, ho, hc, n, hd⟩, hs⟩ := I.tuple hT
  simp only at hc hd
  subst hc hd
  have hle : its.length = xs.length := r.length.symm
  have hi : its.toArray.isEmpty = false := by
    cases its with
    | nil => exact absurd (List.eq_nil_of_length_eq_zero hle.symm) hne
    | cons a b => rfl
  have flen : (List.replicate k.toNat its).flatten.length ≤ sizeLine := by
    rw [lm_len_rep_flat, hle, sizeLine_eq]
    have := Nat.mul_le_mul (show k.toNat ≤ 1000 by omega) hz
    omega
  have c0 : (decide (k < -(2 ^ 63)) || decide (k ≥ 2 ^ 63)) = false := by simp; omega
  have c1 : (its.toArray.isEmpty || k == 1) = false := by simp [hi]; omega
  have c2 : (decide (k ≤ 0) || its.toArray.isEmpty) = false := by simp [hi]; omega
  have hm : ((its.toArray.size : Nat) : Int) * k ≤ 1000000 := by
    rw [List.size_toArray, hle]
    have := Int.mul_le_mul_of_nonneg_right (show ((xs.length : Nat) : Int) ≤ 1000 by omega) (show 0 ≤ k by omega)
    omega
  have c4 : Builtin.Tuple.tupleTooMany (((its.toArray.size : Nat) : Int) * k) = false := by
    simp only [Builtin.Tuple.tupleTooMany, sizeLine_eq]
    exact decide_eq_false (by omega)
  refine wpAny_binaryOp_repeat_ref (T := "tuple") (U := "int") (by decide) ⟨_, ho, rfl⟩ (fun s' => typeIs_int s' k t) noFill_tuple_mul F.fills_int_mul F.slot_int_rmul repeat_tuple F.slot_int_index.lookup
    (call_meets F.slot_int_rmul (typeIs_int s k t) F.entry_int_rmul (F.args_int_rmul_2 _ _) (int_rmul_tuple k t l its.toArray n dd sl)
      ⟨ho, rfl, ⟨_, ho, rfl⟩, call_meets F.slot_tuple_mul ⟨_, ho, rfl⟩ F.entry_tuple_mul (F.args_tuple_mul_2 _ _) (tuple_mulW l its.toArray n dd sl k t c0 c1 c2 (by omega) c4 (by rw [size_rep, List.size_toArray]; exact flen)) ⟨ho, ?_⟩⟩)
  rw [size_rep]
  exact newT_at (t' := s.toks) I (r.rep k.toNat) (by rw [← (r.rep k.toNat).length] at flen; exact flen) q
end
end DL
/-! DL2: the judgements over data: a state's match, expressions, tests, arguments. -/
namespace DL
open PySem PySem.Spec PyProof.Rows L2
/-! ### reading through the store -/
def rdM (a : Addr) : Option MO → D
  | some (.lst ds) => .lst ds
  | some (.dic ks ds) => .dic ks ds
  | some (.dicT ks ds) => .dicT ks ds
  | some (.ins C ns ds) => .obj C ns ds
  | _ => .ref a
def rd (S : MS) : D → D
  | .ref a => rdM a (S a)
  | d => d
/-- a datum's top in the heap, what it holds in the part that stays -/
def RepT (K : PySem.W.Frag) (F H : Hp) : D → V → Prop
  | .lst ds, v => ∃ a vs, v = .ref a ∧ Rd H a (.lst vs) ∧ Reps K F ds vs
  | .tup ds, v => ∃ a vs, v = .ref a ∧ SqT K H a vs ∧ Reps K F ds vs ∧ Rep K F (.tup ds) v
  | .wtup ds, v => ∃ a vs, v = .ref a ∧ SqT K H a vs ∧ Reps K F ds vs
  | .dic ks ds, v => ∃ (a : Addr) (kvs : List (Key × V)), v = .ref a ∧ H a = some (.dK kvs) ∧ kvs.map (·.1) = ks ∧ Reps K F ds (kvs.map (·.2))
  | .dicT ks ds, v => ∃ (a : Addr) (od : Obj) (kvs : List (NestedKey × Addr × V)), v = .ref a ∧ H a = some (NkO a od) ∧ NkF a od kvs ∧ kvs.map (·.1) = ks ∧ (∀ p ∈ kvs, NkV K F p.1 (.ref p.2.1)) ∧ Reps K F ds (kvs.map (·.2.2))
  | .obj C ns ds, v => ∃ (a dx : Addr) (fs : List (Str × V)), v = .ref a ∧ H a = some (.ins (He.ga K C) dx fs) ∧ fs.map (·.1) = ns ∧ Reps K F ds (fs.map (·.2))
  | d, v => Rep K F d v
section
variable {K : PySem.W.Frag} {F F' : Hp} {S S' : MS} {H H' : Hp}
theorem RepT.of (x : FS K F S H) {d : D} {v : V} (h : Rep K F d v) : RepT K F H d v := by
  cases h with
  | non => exact Rep.non
  | bl b => exact Rep.bl b
  | int i => exact Rep.int i
  | str s => exact Rep.str s
  | tup h1 h2 => exact ⟨_, _, rfl, exf_t x.fr h1.sq, h2, .tup h1 h2⟩
  | wtup h1 h2 => exact ⟨_, _, rfl, exf_t x.fr h1, h2⟩
  | lst h1 h2 => exact ⟨_, _, rfl, exf_rd x.fr h1, h2⟩
  | dic h1 h2 h3 => exact ⟨_, _, rfl, x.fr _ _ h1, h2, h3⟩
  | dicT h1 h2 h3 h4 h5 => exact ⟨_, _, _, rfl, x.fr _ _ h1, h2, h3, h4, h5⟩
  | obj h1 h2 h3 => exact ⟨_, _, _, rfl, x.fr _ _ h1, h2, h3⟩
  | ref a => exact Rep.ref a
theorem rd_ok (x : FS K F S H) {d : D} {v : V} (h : Rep K F d v) : RepT K F H (rd S d) v := by
  cases d with
  | ref a =>
    cases h
    show RepT K F H (rdM a (S a)) (.ref a)
    cases e : S a with
    | none => exact Rep.ref a
    | some m =>
      obtain ⟨_, ok⟩ := x.st a m e
      cases m with
      | lst ds => obtain ⟨vs, e1, r⟩ := ok; exact ⟨a, vs, rfl, .inl e1, r⟩
      | dic ks ds => obtain ⟨kvs, e1, e2, r⟩ := ok; exact ⟨a, kvs, rfl, e1, e2, r⟩
      | dicT ks ds => obtain ⟨od, kvs, e1, e2, e3, e4, r⟩ := ok; exact ⟨a, od, kvs, rfl, e1, e2, e3, e4, r⟩
      | ins C ns ds => obtain ⟨dx, fs, e1, e2, r⟩ := ok; exact ⟨a, dx, fs, rfl, e1, e2, r⟩
      | opq φ => exact Rep.ref a
  | _ => exact RepT.of x h
end
/-! ### the state's match -/
abbrev Rho := List (Option D)
abbrev KD := D → Rho → MS → Prop
abbrev WE := Rho → MS → KD → Prop
abbrev WT := Rho → MS → (Bool → Rho → MS → Prop) → Prop
abbrev WA := Rho → MS → (List D → Rho → MS → Prop) → Prop
abbrev KV2 := D → MS → Prop
/-- an exception, by its class and what its fields hold -/
abbrev DXC := Str → List D → MS → Prop
def ExRep (K : PySem.W.Frag) (F H : Hp) (e : Value) (d : Option Addr) (C : Str) (xs : List D) : Prop :=
  e = .ref (He.ga K C) ∧ ((d = none ∧ xs = []) ∨ ∃ (da : Addr) (fs : List (Str × V)), d = some da ∧ H da = some (.xd fs) ∧ Reps K F xs (fs.map (·.2)))
structure Lk where
  E : XK
  ex : DXC
structure Mt (K : PySem.W.Frag) (L : Lk) (F : Hp) (ρ : Rho) (S : MS) (σ : L2.St) (H : Hp) : Prop where
  fs : FS K F S H
  sl : ∀ (i : Nat) (d : D), ρ[i]? = some (some d) → ∃ v, σ[i]? = some (some v) ∧ Rep K F d v
  len : ρ.length ≤ σ.length
  lk : ∀ (F' : Hp) (S' : MS) (H' : Hp) (e : Value) (d : Option Addr) (C : Str) (xs : List D), ExF F F' → FS K F' S' H' → ExRep K F' H' e d C xs → L.ex C xs S' → L.E e d H'
section
variable {K : PySem.W.Frag} {L : Lk} {F F' : Hp} {ρ : Rho} {S S' : MS} {σ : L2.St} {H H' : Hp}
theorem Mt.step (m : Mt K L F ρ S σ H) (e : ExF F F') (x : FS K F' S' H') : Mt K L F' ρ S' σ H' :=
  ⟨x, fun i d h => let ⟨v, a, b⟩ := m.sl i d h; ⟨v, a, b.up e⟩, m.len, fun F2 S2 H2 ee d C xs e2 => m.lk F2 S2 H2 ee d C xs (e.trans e2)⟩
theorem Mt.store (m : Mt K L F ρ S σ H) {i : Nat} {d : D} {v : V} (r : Rep K F d v) : Mt K L F (ρ.set i (some d)) S (σ.set i (some v)) H := by
  refine ⟨m.fs, fun j d' h => ?_, by rw [List.length_set, List.length_set]; exact m.len, m.lk⟩
  by_cases hj : i = j
  · subst hj
    by_cases hl : i < ρ.length
    · rw [List.getElem?_set_self hl] at h
      cases h
      exact ⟨v, List.getElem?_set_self (Nat.lt_of_lt_of_le hl m.len), r⟩
    · rw [List.getElem?_eq_none (by simpa using hl)] at h
      cases h
  · rw [List.getElem?_set_ne hj] at h ⊢
    exact m.sl j d' h
/-- the view of a slot is changed, the slot is not -/
theorem Mt.view (m : Mt K L F ρ S σ H) {i : Nat} {d : D} {v : V} (hs : σ[i]? = some (some v)) (r : Rep K F d v) : Mt K L F (ρ.set i (some d)) S σ H := by
  refine ⟨m.fs, fun j d' h => ?_, by rw [List.length_set]; exact m.len, m.lk⟩
  by_cases hj : i = j
  · subst hj
    by_cases hl : i < ρ.length
    · rw [List.getElem?_set_self hl] at h
      cases h
      exact ⟨v, hs, r⟩
    · rw [List.getElem?_eq_none (by simpa using hl)] at h
      cases h
  · rw [List.getElem?_set_ne hj] at h
    exact m.sl j d' h
end
/-! ### what a reading over values does over data -/
/-- behind an evaluation: the value d, the view ρ', the store S' -/
def KE (K : PySem.W.Frag) (L : Lk) (F : Hp) (σ : L2.St) (Q : KD) (R : VK) : Prop :=
  ∀ v H' d ρ' S' F', ExF F F' → Mt K L F' ρ' S' σ H' → Rep K F' d v → Q d ρ' S' → R v H'
def RE (K : PySem.W.Frag) (L : Lk) (t : TE) (w : WE) : Prop :=
  ∀ F ρ S σ H Q R, Mt K L F ρ S σ H → w ρ S Q → KE K L F σ Q R → t σ H R
def RT (K : PySem.W.Frag) (L : Lk) (t : TT) (w : WT) : Prop :=
  ∀ F ρ S σ H (Q : Bool → Rho → MS → Prop) (R : Bool → Hp → Prop), Mt K L F ρ S σ H → w ρ S Q →
    (∀ b H' ρ' S' F', ExF F F' → Mt K L F' ρ' S' σ H' → Q b ρ' S' → R b H') → t σ H R
def RA (K : PySem.W.Frag) (L : Lk) (t : TA) (w : WA) : Prop :=
  ∀ F ρ S σ H (Q : List D → Rho → MS → Prop) (R : List V → Hp → Prop), Mt K L F ρ S σ H → w ρ S Q →
    (∀ vs H' ds ρ' S' F', ExF F F' → Mt K L F' ρ' S' σ H' → Reps K F' ds vs → Q ds ρ' S' → R vs H') → t σ H R
structure DE (X : Cx) (L : Lk) (e : Expr) (t : TE) (w : WE) : Prop where
  pe : PE X e t
  re : RE X.K L t w
structure DT (X : Cx) (L : Lk) (e : Expr) (t : TT) (w : WT) : Prop where
  pt : PT X e t
  rt : RT X.K L t w
structure DW (X : Cx) (L : Lk) (e : Expr) (t : TT) (w : WT) : Prop where
  pw : PW X e t
  rt : RT X.K L t w
structure DA (X : Cx) (L : Lk) (es : List Expr) (t : TA) (w : WA) : Prop where
  pa : PA X es t
  ra : RA X.K L t w
/-! ### values' operations -/
/-- behind an operation on values -/
def KO (K : PySem.W.Frag) (F : Hp) (Q : KV2) (R : VK) : Prop := ∀ v H' d S' F', ExF F F' → FS K F' S' H' → Rep K F' d v → Q d S' → R v H'
def RO2 (K : PySem.W.Frag) (r : R2) (wo : D → D → MS → KV2 → Prop) : Prop :=
  ∀ F S H x y vx vy Q R, FS K F S H → RepT K F H x vx → RepT K F H y vy → wo x y S Q → KO K F Q R → r vx vy H R
def RO1 (K : PySem.W.Frag) (r : V → Hp → VK → Prop) (wo : D → MS → KV2 → Prop) : Prop :=
  ∀ F S H x vx Q R, FS K F S H → RepT K F H x vx → wo x S Q → KO K F Q R → r vx H R
def ROc (K : PySem.W.Frag) (r : List V → Hp → VK → Prop) (wo : List D → MS → KV2 → Prop) : Prop :=
  ∀ F S H xs vs Q R, FS K F S H → Reps K F xs vs → wo xs S Q → KO K F Q R → r vs H R
section
variable {K : PySem.W.Frag} {L : Lk} {F : Hp} {ρ : Rho} {S : MS} {σ : L2.St} {H : Hp}
/-- an operation that makes nothing -/
theorem KO.here {Q : KV2} {R : VK} (k : KO K F Q R) (x : FS K F S H) {d : D} {v : V} (r : Rep K F d v) (q : Q d S) : R v H := k v H d S F (ExF.refl F) x r q
/-- a new list: m says whether it may change -/
def newL (m : Bool) (xs : List D) (S : MS) (Q : KV2) : Prop := if m = true then ∀ a, S a = none → Q (.ref a) (S.set a (.lst xs)) else Q (.lst xs) S
theorem newL_ok {m : Bool} {xs : List D} {vs : List V} {Q : KV2} {R : VK} (k : KO K F Q R) (x : FS K F S H) (r : Reps K F xs vs) (q : newL m xs S Q) {p : Addr} (hp : H p = none) : R (.ref p) (upd H p (.lst vs)) := by
  obtain ⟨sp, fp⟩ := x.notS hp
  cases m with
  | true =>
    exact k _ _ _ _ F (ExF.refl F) (x.alloc (m := .lst xs) hp rfl ⟨vs, upd_same, r⟩) (.ref p) (q p sp)
  | false =>
    exact k _ _ _ _ _ (ExF.new fp) (x.grow hp) (.lst (.inl upd_same) (r.up (ExF.new fp))) q
theorem newT_ok {xs : List D} {vs : List V} {Q : KV2} {R : VK} (k : KO K F Q R) (x : FS K F S H) (r : Reps K F xs vs) (q : Q (.tup xs) S) {p : Addr} {o : Obj} (hp : H p = none) (ho : o.dict = none) : R (.ref p) (upd H p (.frz o (.tup vs))) := by
  obtain ⟨sp, fp⟩ := x.notS hp
  exact k _ _ _ _ _ (ExF.new fp) (x.grow hp) (.tup (.inl ⟨o, upd_same, ho⟩) (r.up (ExF.new fp))) q
end
/-! ### expressions -/
section
variable {X : Cx} {L : Lk} {a b c : Expr} {ta tb tc : TE} {wa wb wc : WE} {pos : Pos}
def wVar (i : Nat) : WE := fun ρ S Q => ∃ d, ρ[i]? = some (some d) ∧ Q d ρ S
theorem re_var {K : PySem.W.Frag} {i : Nat} : RE K L (tVar i) (wVar i) := by
  rintro F ρ S σ H Q R m ⟨d, h, q⟩ k
  obtain ⟨v, hv, r⟩ := m.sl i d h
  exact ⟨v, hv, k v H d ρ S F (ExF.refl F) m r q⟩
/-- a list that changes no more, from here on -/
def wVarF (i : Nat) : WE := fun ρ S Q => ∃ a ds, ρ[i]? = some (some (.ref a)) ∧ S a = some (.lst ds) ∧ Q (.lst ds) (ρ.set i (some (.lst ds))) (S.del a)
theorem re_varF {K : PySem.W.Frag} {i : Nat} : RE K L (tVar i) (wVarF i) := by
  rintro F ρ S σ H Q R m ⟨a, ds, h, hs, q⟩ k
  obtain ⟨v, hv, r⟩ := m.sl i _ h
  cases r
  obtain ⟨vs, e, r, x⟩ := m.fs.freeze hs
  have fa := (m.fs.st a _ hs).1
  have ex : ExF F (upd F a (.lst vs)) := ExF.new fa
  have rr : Rep K (upd F a (.lst vs)) (.lst ds) (.ref a) := .lst (.inl upd_same) (r.up ex)
  exact ⟨_, hv, k _ H _ _ _ _ ex ((m.step ex x).view hv rr) rr q⟩
def wC (d : D) : WE := fun ρ S Q => Q d ρ S
theorem re_c {K : PySem.W.Frag} {d : D} {v : V} (h : ∀ F, Rep K F d v) : RE K L (tC v) (wC d) := fun F ρ S σ H Q R m q k => k v H d ρ S F (ExF.refl F) m (h F) q
theorem de_var (i : Nat) {x : Str} {pos : Pos} (hN : X.N[i]? = some x := by rfl) (hv : Vis X.env.scope x := by first | exact Or.inl rfl | exact Or.inr (Or.inl rfl) | exact Or.inr (Or.inr rfl)) (hd : (x == ("__debug__" : Str)) = false := by decide)
    (hcd : (x == ("__classdict__" : Str)) = false := by decide) : DE X L (.Name x pos) (tVar i) (wVar i) := ⟨pe_var hN hv hd hcd, re_var⟩
theorem de_varF (i : Nat) {x : Str} {pos : Pos} (hN : X.N[i]? = some x := by rfl) (hv : Vis X.env.scope x := by first | exact Or.inl rfl | exact Or.inr (Or.inl rfl) | exact Or.inr (Or.inr rfl)) (hd : (x == ("__debug__" : Str)) = false := by decide)
    (hcd : (x == ("__classdict__" : Str)) = false := by decide) : DE X L (.Name x pos) (tVar i) (wVarF i) := ⟨pe_var hN hv hd hcd, re_varF⟩
theorem de_int {i : Int} {j : Nat} {pos : Pos} : DE X L (.Constant (.int i) j pos) (tC (.int i)) (wC (.int i)) := ⟨pe_int, re_c fun _ => .int i⟩
theorem de_bl {b : Bool} {j : Nat} {pos : Pos} : DE X L (.Constant (.bool b) j pos) (tC (.bl b)) (wC (.bl b)) := ⟨pe_bl, re_c fun _ => .bl b⟩
theorem de_non {j : Nat} {pos : Pos} : DE X L (.Constant .none j pos) (tC .non) (wC .non) := ⟨pe_non, re_c fun _ => .non⟩
theorem de_str {x : Str} {j : Nat} {pos : Pos} : DE X L (.Constant (.str x) j pos) (tC (.str x)) (wC (.str x)) := ⟨pe_str, re_c fun _ => .str x⟩
/-- a module's number -/
theorem de_gint {x : Str} {i : Int} {pos : Pos} (hg : Gl X x) (hm : ∃ t, X.mg x = some (.int i t)) (hd : (x == ("__debug__" : Str)) = false := by decide) : DE X L (.Name x pos) (tC (.int i)) (wC (.int i)) :=
  let ⟨t, h⟩ := hm; ⟨pe_glob hg h ⟨t, rfl⟩ hd, re_c fun _ => .int i⟩
def wOp (wo : D → D → MS → KV2 → Prop) (wa wb : WE) : WE := fun ρ S Q => wa ρ S fun x ρ1 S1 => wb ρ1 S1 fun y ρ2 S2 => wo (rd S2 x) (rd S2 y) S2 fun d S3 => Q d ρ2 S3
theorem re_op {K : PySem.W.Frag} {r : R2} {wo : D → D → MS → KV2 → Prop} (hr : RO2 K r wo) (ha : RE K L ta wa) (hb : RE K L tb wb) : RE K L (tOp r ta tb) (wOp wo wa wb) := by
  intro F ρ S σ H Q R m q k
  refine ha F ρ S σ H _ _ m q fun x H1 dx ρ1 S1 F1 e1 m1 r1 q1 => ?_
  refine hb F1 ρ1 S1 σ H1 _ _ m1 q1 fun y H2 dy ρ2 S2 F2 e2 m2 r2 q2 => ?_
  refine hr F2 S2 H2 _ _ x y _ _ m2.fs (rd_ok m2.fs (r1.up e2)) (rd_ok m2.fs r2) q2 fun v H3 d S3 F3 e3 x3 r3 q3 => ?_
  exact k v H3 d ρ2 S3 F3 ((e1.trans e2).trans e3) (m2.step e3 x3) r3 q3
theorem de_op {op : Operator} {r : R2} {wo : D → D → MS → KV2 → Prop} (ho : OpR X (binaryOp op) r) (hr : RO2 X.K r wo) (ha : DE X L a ta wa) (hb : DE X L b tb wb) : DE X L (.BinOp a op b pos) (tOp r ta tb) (wOp wo wa wb) :=
  ⟨pe_op ho ha.pe hb.pe, re_op hr ha.re hb.re⟩
def wUn (wo : D → MS → KV2 → Prop) (wa : WE) : WE := fun ρ S Q => wa ρ S fun x ρ1 S1 => wo (rd S1 x) S1 fun d S2 => Q d ρ1 S2
theorem re_un {K : PySem.W.Frag} {r : V → Hp → VK → Prop} {wo : D → MS → KV2 → Prop} (hr : RO1 K r wo) (ha : RE K L ta wa) : RE K L (tUn r ta) (wUn wo wa) := by
  intro F ρ S σ H Q R m q k
  refine ha F ρ S σ H _ _ m q fun x H1 dx ρ1 S1 F1 e1 m1 r1 q1 => ?_
  refine hr F1 S1 H1 _ x _ _ m1.fs (rd_ok m1.fs r1) q1 fun v H3 d S3 F3 e3 x3 r3 q3 => ?_
  exact k v H3 d ρ1 S3 F3 (e1.trans e3) (m1.step e3 x3) r3 q3
theorem de_un {op : UnaryOp} {r : V → Hp → VK → Prop} {wo : D → MS → KV2 → Prop} (ho : UnR X (unaryOp op) r) (hr : RO1 X.K r wo) (ha : DE X L a ta wa) : DE X L (.UnaryOp op a pos) (tUn r ta) (wUn wo wa) :=
  ⟨pe_un ho ha.pe, re_un hr ha.re⟩
theorem de_cmp {op : CmpOp} {r : R2} {wo : D → D → MS → KV2 → Prop} (ho : OpR X (compareOp op) r) (hr : RO2 X.K r wo) (ha : DE X L a ta wa) (hb : DE X L b tb wb) (hm : behindInMarks op b = false) :
    DE X L (.Compare a [op] [b] pos) (tOp r ta tb) (wOp wo wa wb) := ⟨pe_cmpR ho ha.pe hb.pe hm, re_op hr ha.re hb.re⟩
/-- a value that is a flag, as a test -/
def wTe (wa : WE) : WT := fun ρ S Q => wa ρ S fun x ρ1 S1 => ∃ k, x = .bl k ∧ Q k ρ1 S1
theorem rt_test {K : PySem.W.Frag} (ha : RE K L ta wa) : RT K L (tTest ta) (wTe wa) := by
  intro F ρ S σ H Q R m q k
  refine ha F ρ S σ H _ _ m q fun x H1 dx ρ1 S1 F1 e1 m1 r1 ⟨b, e, q1⟩ => ?_
  subst e
  cases r1
  exact ⟨b, rfl, k b H1 ρ1 S1 F1 e1 m1 q1⟩
theorem rt_B {K : PySem.W.Frag} (ha : RE K L ta wa) : RT K L (tB ta) (wTe wa) := rt_test ha
theorem dt_cmp {op : CmpOp} {r : R2} {wo : D → D → MS → KV2 → Prop} (ho : OpR X (compareOp op) r) (hr : RO2 X.K r wo) (ha : DE X L a ta wa) (hb : DE X L b tb wb) (hm : behindInMarks op b = false) :
    DT X L (.Compare a [op] [b] pos) (tTest (tOp r ta tb)) (wTe (wOp wo wa wb)) := ⟨pt_cmpR ho ha.pe hb.pe hm, rt_test (re_op hr ha.re hb.re)⟩
theorem dt_val {e : Expr} {t : TE} {w : WE} (h : DE X L e t w) (he : ∀ whole, isTrue e X.env whole = (do let v ← whole; standAt e.pos; holding [v] (truthy v)) := by intro _; rfl) : DT X L e (tB t) (wTe w) := ⟨pt_val h.pe he, rt_B h.re⟩
/-- chains -/
def wCh (wo wo' : D → D → MS → KV2 → Prop) (wa wb wc : WE) : WE := fun ρ S Q => wa ρ S fun x ρ1 S1 => wb ρ1 S1 fun y ρ2 S2 => wo (rd S2 x) (rd S2 y) S2 fun d S3 => ∃ k, d = .bl k ∧
  (if k = true then wc ρ2 S3 fun z ρ4 S4 => wo' (rd S4 y) (rd S4 z) S4 fun d' S5 => Q d' ρ4 S5 else Q (.bl false) ρ2 S3)
theorem re_ch {K : PySem.W.Frag} {r r' : R2} {wo wo' : D → D → MS → KV2 → Prop} (hr : RO2 K r wo) (hr' : RO2 K r' wo') (ha : RE K L ta wa) (hb : RE K L tb wb) (hc : RE K L tc wc) : RE K L (tChain r r' ta tb tc) (wCh wo wo' wa wb wc) := by
  intro F ρ S σ H Q R m q k
  refine ha F ρ S σ H _ _ m q fun x H1 dx ρ1 S1 F1 e1 m1 r1 q1 => ?_
  refine hb F1 ρ1 S1 σ H1 _ _ m1 q1 fun y H2 dy ρ2 S2 F2 e2 m2 r2 q2 => ?_
  refine hr F2 S2 H2 _ _ x y _ _ m2.fs (rd_ok m2.fs (r1.up e2)) (rd_ok m2.fs r2) q2 fun v H3 d S3 F3 e3 x3 r3 ⟨kk, e, q3⟩ => ?_
  subst e
  cases r3
  have m3 := m2.step e3 x3
  refine ⟨kk, rfl, ?_⟩
  cases kk with
  | false =>
    rw [if_neg Bool.false_ne_true] at q3 ⊢
    exact k _ H3 _ ρ2 S3 F3 ((e1.trans e2).trans e3) m3 (.bl false) q3
  | true =>
    rw [if_pos rfl] at q3 ⊢
    refine hc F3 ρ2 S3 σ H3 _ _ m3 q3 fun z H4 dz ρ4 S4 F4 e4 m4 r4 q4 => ?_
    refine hr' F4 S4 H4 _ _ y z _ _ m4.fs (rd_ok m4.fs ((r2.up e3).up e4)) (rd_ok m4.fs r4) q4 fun v H5 d5 S5 F5 e5 x5 r5 q5 => ?_
    exact k v H5 d5 ρ4 S5 F5 ((((e1.trans e2).trans e3).trans e4).trans e5) (m4.step e5 x5) r5 q5
theorem de_ch {op op' : CmpOp} {r r' : R2} {wo wo' : D → D → MS → KV2 → Prop} (ho : OpR X (compareOp op) r) (ho' : OpR X (compareOp op') r') (hr : RO2 X.K r wo) (hr' : RO2 X.K r' wo') (ha : DE X L a ta wa) (hb : DE X L b tb wb) (hc : DE X L c tc wc)
    (hm : lastMarks [op, op'] [b, c] = false := by with_unfolding_all rfl) : DE X L (.Compare a [op, op'] [b, c] pos) (tChain r r' ta tb tc) (wCh wo wo' wa wb wc) := ⟨pe_chain ho ho' ha.pe hb.pe hc.pe hm, re_ch hr hr' ha.re hb.re hc.re⟩
theorem dt_ch {op op' : CmpOp} {r r' : R2} {wo wo' : D → D → MS → KV2 → Prop} (ho : OpR X (compareOp op) r) (ho' : OpR X (compareOp op') r') (hr : RO2 X.K r wo) (hr' : RO2 X.K r' wo') (ha : DE X L a ta wa) (hb : DE X L b tb wb) (hc : DE X L c tc wc)
    (hm : lastMarks [op, op'] [b, c] = false := by with_unfolding_all rfl) : DT X L (.Compare a [op, op'] [b, c] pos) (tTest (tChain r r' ta tb tc)) (wTe (wCh wo wo' wa wb wc)) := ⟨pt_chain ho ho' ha.pe hb.pe hc.pe hm, rt_test (re_ch hr hr' ha.re hb.re hc.re)⟩
/-! ### and, or, not, a if c else b -/
variable {rest : List Expr} {tA tB' : TT} {wA wB : WT}
def wAnd (w u : WT) : WT := fun ρ S Q => w ρ S fun c ρ1 S1 => if c = true then u ρ1 S1 Q else Q false ρ1 S1
def wOr (w u : WT) : WT := fun ρ S Q => w ρ S fun c ρ1 S1 => if c = true then Q true ρ1 S1 else u ρ1 S1 Q
def wNot (w : WT) : WT := fun ρ S Q => w ρ S fun c ρ1 S1 => Q (!c) ρ1 S1
theorem rt_and {K : PySem.W.Frag} (ha : RT K L tA wA) (hb : RT K L tB' wB) : RT K L (tAnd tA tB') (wAnd wA wB) := by
  intro F ρ S σ H Q R m q k
  refine ha F ρ S σ H _ _ m q fun c H1 ρ1 S1 F1 e1 m1 q1 => ?_
  cases c with
  | true =>
    rw [if_pos rfl] at q1 ⊢
    exact hb F1 ρ1 S1 σ H1 _ _ m1 q1 fun c H2 ρ2 S2 F2 e2 m2 q2 => k c H2 ρ2 S2 F2 (e1.trans e2) m2 q2
  | false =>
    rw [if_neg Bool.false_ne_true] at q1 ⊢
    exact k false H1 ρ1 S1 F1 e1 m1 q1
theorem rt_or {K : PySem.W.Frag} (ha : RT K L tA wA) (hb : RT K L tB' wB) : RT K L (tOr tA tB') (wOr wA wB) := by
  intro F ρ S σ H Q R m q k
  refine ha F ρ S σ H _ _ m q fun c H1 ρ1 S1 F1 e1 m1 q1 => ?_
  cases c with
  | false =>
    rw [if_neg Bool.false_ne_true] at q1 ⊢
    exact hb F1 ρ1 S1 σ H1 _ _ m1 q1 fun c H2 ρ2 S2 F2 e2 m2 q2 => k c H2 ρ2 S2 F2 (e1.trans e2) m2 q2
  | true =>
    rw [if_pos rfl] at q1 ⊢
    exact k true H1 ρ1 S1 F1 e1 m1 q1
theorem rt_not {K : PySem.W.Frag} (ha : RT K L tA wA) : RT K L (tNot tA) (wNot wA) := by
  intro F ρ S σ H Q R m q k
  exact ha F ρ S σ H _ _ m q fun c H1 ρ1 S1 F1 e1 m1 q1 => k (!c) H1 ρ1 S1 F1 e1 m1 q1
theorem dw_and1 (h : DT X L a tA wA) : DW X L (.BoolOp .And [a] pos) tA wA := ⟨pw_and1 h.pt, h.rt⟩
theorem dw_or1 (h : DT X L a tA wA) : DW X L (.BoolOp .Or [a] pos) tA wA := ⟨pw_or1 h.pt, h.rt⟩
theorem dw_and (h : DT X L a tA wA) (g : DW X L (.BoolOp .And (b :: rest) pos) tB' wB) : DW X L (.BoolOp .And (a :: b :: rest) pos) (tAnd tA tB') (wAnd wA wB) := ⟨pw_and h.pt g.pw, rt_and h.rt g.rt⟩
theorem dw_or (h : DT X L a tA wA) (g : DW X L (.BoolOp .Or (b :: rest) pos) tB' wB) : DW X L (.BoolOp .Or (a :: b :: rest) pos) (tOr tA tB') (wOr wA wB) := ⟨pw_or h.pt g.pw, rt_or h.rt g.rt⟩
theorem dt_w (h : DW X L a tA wA) : DT X L a tA wA := ⟨h.pw.pt, h.rt⟩
theorem dt_not (h : DT X L a tA wA) : DT X L (.UnaryOp .Not a pos) (tNot tA) (wNot wA) := ⟨pt_not h.pt, rt_not h.rt⟩
/-- .. as values -/
def wAndV (wa wb : WE) : WE := fun ρ S Q => wa ρ S fun x ρ1 S1 => ∃ c, x = .bl c ∧ if c = true then wb ρ1 S1 Q else Q (.bl false) ρ1 S1
def wOrV (wa wb : WE) : WE := fun ρ S Q => wa ρ S fun x ρ1 S1 => ∃ c, x = .bl c ∧ if c = true then Q (.bl true) ρ1 S1 else wb ρ1 S1 Q
def wNotV (wa : WE) : WE := fun ρ S Q => wa ρ S fun x ρ1 S1 => ∃ c, x = .bl c ∧ Q (.bl (!c)) ρ1 S1
theorem re_andV {K : PySem.W.Frag} (ha : RE K L ta wa) (hb : RE K L tb wb) : RE K L (tAndV ta tb) (wAndV wa wb) := by
  intro F ρ S σ H Q R m q k
  refine ha F ρ S σ H _ _ m q fun x H1 dx ρ1 S1 F1 e1 m1 r1 ⟨c, e, q1⟩ => ?_
  subst e
  cases r1
  refine ⟨c, rfl, ?_⟩
  cases c with
  | true =>
    rw [if_pos rfl] at q1 ⊢
    exact hb F1 ρ1 S1 σ H1 _ _ m1 q1 fun v H2 d ρ2 S2 F2 e2 m2 r2 q2 => k v H2 d ρ2 S2 F2 (e1.trans e2) m2 r2 q2
  | false =>
    rw [if_neg Bool.false_ne_true] at q1 ⊢
    exact k _ H1 _ ρ1 S1 F1 e1 m1 (.bl false) q1
theorem re_orV {K : PySem.W.Frag} (ha : RE K L ta wa) (hb : RE K L tb wb) : RE K L (tOrV ta tb) (wOrV wa wb) := by
  intro F ρ S σ H Q R m q k
  refine ha F ρ S σ H _ _ m q fun x H1 dx ρ1 S1 F1 e1 m1 r1 ⟨c, e, q1⟩ => ?_
  subst e
  cases r1
  refine ⟨c, rfl, ?_⟩
  cases c with
  | false =>
    rw [if_neg Bool.false_ne_true] at q1 ⊢
    exact hb F1 ρ1 S1 σ H1 _ _ m1 q1 fun v H2 d ρ2 S2 F2 e2 m2 r2 q2 => k v H2 d ρ2 S2 F2 (e1.trans e2) m2 r2 q2
  | true =>
    rw [if_pos rfl] at q1 ⊢
    exact k _ H1 _ ρ1 S1 F1 e1 m1 (.bl true) q1
theorem re_notV {K : PySem.W.Frag} (ha : RE K L ta wa) : RE K L (tNotV ta) (wNotV wa) := by
  intro F ρ S σ H Q R m q k
  refine ha F ρ S σ H _ _ m q fun x H1 dx ρ1 S1 F1 e1 m1 r1 ⟨c, e, q1⟩ => ?_
  subst e
  cases r1
  exact ⟨c, rfl, k _ H1 _ ρ1 S1 F1 e1 m1 (.bl _) q1⟩
theorem de_one {op : BoolOp} (h : DE X L a ta wa) : DE X L (.BoolOp op [a] pos) ta wa := ⟨pe_one h.pe, h.re⟩
theorem de_and (h : DE X L a ta wa) (g : DE X L (.BoolOp .And (b :: rest) pos) tb wb) : DE X L (.BoolOp .And (a :: b :: rest) pos) (tAndV ta tb) (wAndV wa wb) := ⟨pe_and h.pe g.pe, re_andV h.re g.re⟩
theorem de_or (h : DE X L a ta wa) (g : DE X L (.BoolOp .Or (b :: rest) pos) tb wb) : DE X L (.BoolOp .Or (a :: b :: rest) pos) (tOrV ta tb) (wOrV wa wb) := ⟨pe_or h.pe g.pe, re_orV h.re g.re⟩
theorem de_not (h : DE X L a ta wa) : DE X L (.UnaryOp .Not a pos) (tNotV ta) (wNotV wa) := ⟨pe_not h.pe, re_notV h.re⟩
def wIf (w : WT) (wa wb : WE) : WE := fun ρ S Q => w ρ S fun c ρ1 S1 => if c = true then wa ρ1 S1 Q else wb ρ1 S1 Q
theorem re_if {K : PySem.W.Frag} (h : RT K L tA wA) (ha : RE K L ta wa) (hb : RE K L tb wb) : RE K L (tIf tA ta tb) (wIf wA wa wb) := by
  intro F ρ S σ H Q R m q k
  refine h F ρ S σ H _ _ m q fun c H1 ρ1 S1 F1 e1 m1 q1 => ?_
  cases c with
  | true =>
    rw [if_pos rfl] at q1 ⊢
    exact ha F1 ρ1 S1 σ H1 _ _ m1 q1 fun v H2 d ρ2 S2 F2 e2 m2 r2 q2 => k v H2 d ρ2 S2 F2 (e1.trans e2) m2 r2 q2
  | false =>
    rw [if_neg Bool.false_ne_true] at q1 ⊢
    exact hb F1 ρ1 S1 σ H1 _ _ m1 q1 fun v H2 d ρ2 S2 F2 e2 m2 r2 q2 => k v H2 d ρ2 S2 F2 (e1.trans e2) m2 r2 q2
theorem de_if (h : DT X L c tA wA) (ha : DE X L a ta wa) (hb : DE X L b tb wb) : DE X L (.IfExp c a b pos) (tIf tA ta tb) (wIf wA wa wb) := ⟨pe_ifExp h.pt ha.pe hb.pe, re_if h.rt ha.re hb.re⟩
/-! ### arguments, displays -/
variable {es : List Expr} {tr : TA} {wr : WA}
def wNil : WA := fun ρ S Q => Q [] ρ S
def wCons (wa : WE) (wr : WA) : WA := fun ρ S Q => wa ρ S fun x ρ1 S1 => wr ρ1 S1 fun xs ρ2 S2 => Q (x :: xs) ρ2 S2
theorem ra_nil {K : PySem.W.Frag} : RA K L tNil wNil := fun F ρ S σ H Q R m q k => k [] H [] ρ S F (ExF.refl F) m .nil q
theorem ra_cons {K : PySem.W.Frag} (ha : RE K L ta wa) (hr : RA K L tr wr) : RA K L (tCons ta tr) (wCons wa wr) := by
  intro F ρ S σ H Q R m q k
  refine ha F ρ S σ H _ _ m q fun x H1 dx ρ1 S1 F1 e1 m1 r1 q1 => ?_
  exact hr F1 ρ1 S1 σ H1 _ _ m1 q1 fun vs H2 ds ρ2 S2 F2 e2 m2 r2 q2 => k _ H2 _ ρ2 S2 F2 (e1.trans e2) m2 (.cons (r1.up e2) r2) q2
theorem da_nil : DA X L [] tNil wNil := ⟨pa_nil, ra_nil⟩
theorem da_cons (h : DE X L a ta wa) (g : DA X L es tr wr) (hs : starEach (a :: es) X.env = (false, eval a X.env) :: starEach es X.env := by rfl) : DA X L (a :: es) (tCons ta tr) (wCons wa wr) := ⟨pa_cons h.pe g.pa hs, ra_cons h.re g.ra⟩
def wTup (wr : WA) : WE := fun ρ S Q => wr ρ S fun xs ρ1 S1 => xs.length ≤ sizeLine ∧ Q (.tup xs) ρ1 S1
def wLst (m : Bool) (wr : WA) : WE := fun ρ S Q => wr ρ S fun xs ρ1 S1 => xs.length ≤ sizeLine ∧ newL m xs S1 fun d S2 => Q d ρ1 S2
theorem re_tup {K : PySem.W.Frag} (h : RA K L tr wr) : RE K L (tTupF tr) (wTup wr) := by
  intro F ρ S σ H Q R m q k
  refine h F ρ S σ H _ _ m q fun vs H1 ds ρ1 S1 F1 e1 m1 r1 ⟨z, q1⟩ => ⟨by rw [← r1.length]; exact z, fun p o hp ho => ?_⟩
  exact newT_ok (Q := fun d S2 => Q d ρ1 S2) (fun v H' d S' F' e x r q => k v H' d ρ1 S' F' (e1.trans e) (m1.step e x) r q) m1.fs r1 q1 hp ho
theorem re_lst {K : PySem.W.Frag} {mu : Bool} (h : RA K L tr wr) : RE K L (tLst tr) (wLst mu wr) := by
  intro F ρ S σ H Q R m q k
  refine h F ρ S σ H _ _ m q fun vs H1 ds ρ1 S1 F1 e1 m1 r1 ⟨z, q1⟩ => ⟨by rw [← r1.length]; exact z, fun p hp => ?_⟩
  exact newL_ok (Q := fun d S2 => Q d ρ1 S2) (fun v H' d S' F' e x r q => k v H' d ρ1 S' F' (e1.trans e) (m1.step e x) r q) m1.fs r1 q1 hp
theorem de_tup {x1} (h : DA X L es tr wr) : DE X L (.Tuple es x1 pos) (tTupF tr) (wTup wr) := ⟨pe_tupF h.pa, re_tup h.ra⟩
theorem de_lst (m : Bool) (h : DA X L es tr wr) : DE X L (.List es pos) (tLst tr) (wLst m wr) := ⟨pe_lst h.pa, re_lst h.ra⟩
end
end DL
/-! DL3: statements, targets, loops, comprehensions over data. -/
namespace DL
open PySem PySem.Spec PyProof.Rows L2
structure DEnds where
  nx : Rho → MS → Prop
  rt : D → MS → Prop
  bk : Rho → MS → Prop := fun _ _ => False
  ct : Rho → MS → Prop := fun _ _ => False
abbrev WS := DEnds → Rho → MS → Prop
structure LE (K : PySem.W.Frag) (L : Lk) (F : Hp) (De : DEnds) (D : Ends) : Prop where
  nx : ∀ F' ρ' S' σ' H', ExF F F' → Mt K L F' ρ' S' σ' H' → De.nx ρ' S' → D.nx σ' H'
  rt : ∀ F' S' H' v d, ExF F F' → FS K F' S' H' → Rep K F' d v → De.rt d S' → D.rt v H'
  bk : ∀ F' ρ' S' σ' H', ExF F F' → Mt K L F' ρ' S' σ' H' → De.bk ρ' S' → D.bk σ' H'
  ct : ∀ F' ρ' S' σ' H', ExF F F' → Mt K L F' ρ' S' σ' H' → De.ct ρ' S' → D.ct σ' H'
theorem LE.up {K : PySem.W.Frag} {L : Lk} {F F1 : Hp} {De : DEnds} {D : Ends} (l : LE K L F De D) (e : ExF F F1) : LE K L F1 De D :=
  ⟨fun F' ρ' S' σ' H' e' => l.nx F' ρ' S' σ' H' (e.trans e'), fun F' S' H' v d e' => l.rt F' S' H' v d (e.trans e'), fun F' ρ' S' σ' H' e' => l.bk F' ρ' S' σ' H' (e.trans e'), fun F' ρ' S' σ' H' e' => l.ct F' ρ' S' σ' H' (e.trans e')⟩
def RS (K : PySem.W.Frag) (L : Lk) (t : TS) (w : WS) : Prop := ∀ F ρ S σ H De D, Mt K L F ρ S σ H → w De ρ S → LE K L F De D → t D σ H
structure DS (X : Cx) (L : Lk) (st : Stmt) (t : TS) (w : WS) : Prop where
  ps : PS X st t
  rs : RS X.K L t w
structure DB (X : Cx) (L : Lk) (st : List Stmt) (t : TS) (w : WS) : Prop where
  ps : PSs X st t
  rs : RS X.K L t w
section
variable {X : Cx} {L : Lk} {st : Stmt} {rest : List Stmt} {t u : TS} {w wu : WS} {e : Expr} {te : TE} {we : WE} {pos : Pos} {K : PySem.W.Frag}
def wSeq (w u : WS) : WS := fun De ρ S => w { De with nx := u De } ρ S
def wNext : WS := fun De ρ S => De.nx ρ S
theorem rs_seq (h : RS K L t w) (g : RS K L u wu) : RS K L (tSeq t u) (wSeq w wu) := fun F ρ S σ H De D m q l =>
  h F ρ S σ H _ _ m q ⟨fun F' ρ' S' σ' H' e' m' q' => g F' ρ' S' σ' H' De D m' q' (l.up e'), l.rt, l.bk, l.ct⟩
theorem rs_next : RS K L tNext wNext := fun F ρ S σ H De D m q l => l.nx F ρ S σ H (ExF.refl F) m q
theorem db_nil : DB X L [] tNext wNext := ⟨pss_nil, rs_next⟩
theorem db_one (h : DS X L st t w) : DB X L [st] t w := ⟨pss_one h.ps, h.rs⟩
theorem db_cons (h : DS X L st t w) (g : DB X L rest u wu) : DB X L (st :: rest) (tSeq t u) (wSeq w wu) := ⟨pss_cons h.ps g.ps, rs_seq h.rs g.rs⟩
theorem ds_pass : DS X L (.Pass pos) tNext wNext := ⟨ps_pass, rs_next⟩
def wBreak : WS := fun De ρ S => De.bk ρ S
def wCont : WS := fun De ρ S => De.ct ρ S
theorem ds_break : DS X L (.Break pos) tBreak wBreak := ⟨ps_break, fun F ρ S σ H De D m q l => l.bk F ρ S σ H (ExF.refl F) m q⟩
theorem ds_continue : DS X L (.Continue pos) tCont wCont := ⟨ps_continue, fun F ρ S σ H De D m q l => l.ct F ρ S σ H (ExF.refl F) m q⟩
def wDrop (we : WE) : WS := fun De ρ S => we ρ S fun _ ρ1 S1 => De.nx ρ1 S1
theorem rs_drop (h : RE K L te we) : RS K L (tDrop te) (wDrop we) := fun F ρ S σ H De D m q l =>
  h F ρ S σ H _ _ m q fun v H1 d ρ1 S1 F1 e1 m1 r1 q1 => l.nx F1 ρ1 S1 σ H1 e1 m1 q1
theorem ds_expr (h : DE X L e te we) (hs : swapsWith e none pos.line X.env = pure false := by rfl) : DS X L (.Expr e pos) (tDrop te) (wDrop we) := ⟨ps_expr h.pe hs, rs_drop h.re⟩
def wRet (we : WE) : WS := fun De ρ S => we ρ S fun d _ S1 => De.rt d S1
theorem rs_ret (h : RE K L te we) : RS K L (tRet te) (wRet we) := fun F ρ S σ H De D m q l =>
  h F ρ S σ H _ _ m q fun v H1 d ρ1 S1 F1 e1 m1 r1 q1 => l.rt F1 S1 H1 v d e1 m1.fs r1 q1
theorem ds_ret (h : DE X L e te we) : DS X L (.Return (some e) pos) (tRet te) (wRet we) := ⟨ps_ret h.pe, rs_ret h.re⟩
def wRetN : WS := fun De _ S => De.rt .non S
theorem ds_retN : DS X L (.Return none pos) tRetN wRetN := ⟨ps_retN, fun F ρ S σ H De D m q l => l.rt F S H .non .non (ExF.refl F) m.fs .non q⟩
def wIfS (c : WT) (w u : WS) : WS := fun De ρ S => c ρ S fun b ρ1 S1 => if b = true then w De ρ1 S1 else u De ρ1 S1
theorem rs_if {tc : TT} {wc : WT} (hc : RT K L tc wc) (h : RS K L t w) (g : RS K L u wu) : RS K L (tIfS tc t u) (wIfS wc w wu) := fun F ρ S σ H De D m q l =>
  hc F ρ S σ H _ _ m q fun b H1 ρ1 S1 F1 e1 m1 q1 => by
    cases b with
    | true =>
      rw [if_pos rfl] at q1 ⊢
      exact h F1 ρ1 S1 σ H1 De D m1 q1 (l.up e1)
    | false =>
      rw [if_neg Bool.false_ne_true] at q1 ⊢
      exact g F1 ρ1 S1 σ H1 De D m1 q1 (l.up e1)
theorem ds_if {c : Expr} {a b : List Stmt} {tc : TT} {wc : WT} (hc : DT X L c tc wc) (h : DB X L a t w) (g : DB X L b u wu) : DS X L (.If c a b pos) (tIfS tc t u) (wIfS wc w wu) := ⟨ps_if hc.pt h.ps g.ps, rs_if hc.rt h.rs g.rs⟩
def wNever : WS := fun _ _ _ => False
theorem ds_never : DS X L st tNever wNever := ⟨ps_never, fun _ _ _ _ _ _ _ _ q _ => q.elim⟩
theorem db_never {sts : List Stmt} : DB X L sts tNever wNever := ⟨pss_never, fun _ _ _ _ _ _ _ _ q _ => q.elim⟩
end
/-! ### targets -/
abbrev WG := D → Rho → MS → (Rho → MS → Prop) → Prop
abbrev WGs := List D → Rho → MS → (Rho → MS → Prop) → Prop
def RG (K : PySem.W.Frag) (L : Lk) (vs : List Nat) (g : TG) (wg : WG) : Prop := ∀ F ρ S σ H d v (Q : Rho → MS → Prop) (R : L2.St → Hp → Prop), Mt K L F ρ S σ H → Rep K F d v → wg d ρ S Q →
  (∀ F' ρ' S' σ' H', ExF F F' → Mt K L F' ρ' S' σ' H' → wipe σ' vs = wipe σ vs → Q ρ' S' → R σ' H') → g v σ H R
def RGs (K : PySem.W.Frag) (L : Lk) (vs : List Nat) (g : TGs) (wg : WGs) : Prop := ∀ F ρ S σ H ds us (Q : Rho → MS → Prop) (R : L2.St → Hp → Prop), Mt K L F ρ S σ H → Reps K F ds us → wg ds ρ S Q →
  (∀ F' ρ' S' σ' H', ExF F F' → Mt K L F' ρ' S' σ' H' → wipe σ' vs = wipe σ vs → Q ρ' S' → R σ' H') → g us σ H R
structure DG (X : Cx) (L : Lk) (vs : List Nat) (tg : Expr) (g : TG) (wg : WG) : Prop where
  pg : PG X tg g
  rg : RG X.K L vs g wg
structure DGs (X : Cx) (L : Lk) (vs : List Nat) (tg : List Expr) (g : TGs) (wg : WGs) : Prop where
  pg : PGs X tg g
  rg : RGs X.K L vs g wg
theorem wipe_get {σ : L2.St} {j : Nat} : ∀ {vs : List Nat}, (wipe σ vs)[j]? = if j ∈ vs ∧ j < σ.length then some none else σ[j]?
  | [] => by simp [wipe]
  | v :: vs => by
    unfold wipe
    rw [List.getElem?_set]
    rw [wipe_length, wipe_get (vs := vs)]
    by_cases h : v = j
    · subst h
      by_cases hl : v < σ.length
      · simp [hl]
      · simp [hl, List.getElem?_eq_none (Nat.le_of_not_lt hl)]
    · simp [h, Ne.symm h]
theorem wipe_eq {σ σ' : L2.St} {vs : List Nat} (hl : σ'.length = σ.length) (h : ∀ j, j ∉ vs → σ'[j]? = σ[j]?) : wipe σ' vs = wipe σ vs := by
  apply List.ext_getElem?
  intro j
  rw [wipe_get, wipe_get, hl]
  by_cases hj : j ∈ vs ∧ j < σ.length
  · rw [if_pos hj, if_pos hj]
  · rw [if_neg hj, if_neg hj]
    by_cases hv : j ∈ vs
    · have : ¬ j < σ.length := fun z => hj ⟨hv, z⟩
      rw [List.getElem?_eq_none (by omega), List.getElem?_eq_none (by omega)]
    · exact h j hv
theorem wipe_set {σ : L2.St} {i : Nat} {v : V} {vs : List Nat} (h : i ∈ vs) : wipe (σ.set i (some v)) vs = wipe σ vs :=
  wipe_eq (by simp) fun j hj => List.getElem?_set_ne (fun z => by subst z; exact hj h)
section
variable {X : Cx} {L : Lk} {pos : Pos} {K : PySem.W.Frag} {vs : List Nat}
def wgName (i : Nat) : WG := fun d ρ S Q => Q (ρ.set i (some d)) S
theorem rg_name {i : Nat} (h : i ∈ vs) : RG K L vs (gName i) (wgName i) := fun F ρ S σ H d v Q R m r q k =>
  k F _ S _ H (ExF.refl F) (m.store r) (wipe_set h) q
theorem dg_name (i : Nat) {x : Str} (h : i ∈ vs) (hN : X.N.Nodup) (hi : X.N[i]? = some x := by rfl) (hx : Loc X.env.scope x := by first | exact Or.inl rfl | exact Or.inr rfl) (hf : X.fn x = true ∨ X.env.scope.names.lookup x = some .local := by first | exact .inl rfl | exact .inr rfl | assumption) :
    DG X L vs (.Name x pos) (gName i) (wgName i) := ⟨pg_name hN hi hx hf, rg_name h⟩
def wgNil : WGs := fun ds ρ S Q => ds = [] ∧ Q ρ S
def wgCons (w : WG) (u : WGs) : WGs := fun ds ρ S Q => match ds with
  | d :: r => w d ρ S fun ρ1 S1 => u r ρ1 S1 Q
  | [] => False
theorem dgs_nil : DGs X L vs [] gNil wgNil := ⟨pgs_nil, fun F ρ S σ H ds us Q R m r ⟨e, q⟩ k => by
  subst e
  cases r
  exact ⟨rfl, k F ρ S σ H (ExF.refl F) m rfl q⟩⟩
theorem dgs_cons {e : Expr} {es : List Expr} {g : TG} {u : TGs} {w : WG} {wu : WGs} (h : DG X L vs e g w) (k : DGs X L vs es u wu)
    (hs : (assignEach (e :: es) X.env).map (·.2) = assign e X.env :: (assignEach es X.env).map (·.2) := by rfl) : DGs X L vs (e :: es) (gCons g u) (wgCons w wu) := by
  refine ⟨pgs_cons h.pg k.pg hs, fun F ρ S σ H ds us Q R m r q kk => ?_⟩
  cases r with
  | nil => exact q.elim
  | cons r1 r2 =>
    refine ⟨_, _, rfl, h.rg F ρ S σ H _ _ _ _ m r1 q fun F1 ρ1 S1 σ1 H1 e1 m1 w1 q1 => ?_⟩
    exact k.rg F1 ρ1 S1 σ1 H1 _ _ _ _ m1 (r2.up e1) q1 fun F2 ρ2 S2 σ2 H2 e2 m2 w2 q2 => kk F2 ρ2 S2 σ2 H2 (e1.trans e2) m2 (w2.trans w1) q2
def wgTup (w : WGs) : WG := fun d ρ S Q => ∃ ds, (d = .tup ds ∨ d = .wtup ds) ∧ w ds ρ S Q
def lenOk (n : Nat) (w : WGs) : WGs := fun ds ρ S Q => ds.length = n ∧ w ds ρ S Q
theorem dg_tup {es : List Expr} {k : Nat} {g : TGs} {w : WGs} {n : Nat} (hc : X.calm = true) (h : DGs X L vs es g w)
    (hn : (assignEach es X.env).length = n := by rfl) (hst : (assignEach es X.env).findIdx? (·.1) = none := by rfl) : DG X L vs (.Tuple es k pos) (gTup X.K n g) (wgTup (lenOk n w)) := by
  refine ⟨pg_tup hc h.pg hn hst, fun F ρ S σ H d v Q R m r ⟨ds, e, hl, q⟩ kk => ?_⟩
  rcases e with rfl | rfl
  · cases r with
    | tup h1 h2 => exact ⟨_, _, rfl, exf_t m.fs.fr h1.sq, by rw [← h2.length]; exact hl, h.rg F ρ S σ H _ _ _ _ m h2 q kk⟩
  · cases r with
    | wtup h1 h2 => exact ⟨_, _, rfl, exf_t m.fs.fr h1, by rw [← h2.length]; exact hl, h.rg F ρ S σ H _ _ _ _ m h2 q kk⟩
end
/-! ### assignments -/
section
variable {X : Cx} {L : Lk} {e : Expr} {te : TE} {we : WE} {pos : Pos} {K : PySem.W.Frag}
def wAsg (we : WE) (wg : WG) : WS := fun De ρ S => we ρ S fun d ρ1 S1 => wg d ρ1 S1 De.nx
theorem rs_asg {g : TG} {wg : WG} {vs : List Nat} (h : RE K L te we) (hg : RG K L vs g wg) : RS K L (tAsg te g) (wAsg we wg) := fun F ρ S σ H De D m q l =>
  h F ρ S σ H _ _ m q fun v H1 d ρ1 S1 F1 e1 m1 r1 q1 => hg F1 ρ1 S1 σ H1 d v _ _ m1 r1 q1 fun F2 ρ2 S2 σ2 H2 e2 m2 _ q2 => l.nx F2 ρ2 S2 σ2 H2 (e1.trans e2) m2 q2
theorem ds_set (i : Nat) {x : Str} {pos' : Pos} (hN : X.N.Nodup) (h : DE X L e te we) (hi : X.N[i]? = some x := by rfl) (hx : Loc X.env.scope x := by first | exact Or.inl rfl | exact Or.inr rfl) (hs : swapsWith e (some (.Name x pos')) pos.line X.env = pure false := by rfl)
    (hf : X.fn x = true ∨ X.env.scope.names.lookup x = some .local := by first | exact .inl rfl | exact .inr rfl | assumption) : DS X L (.Assign [.Name x pos'] e pos) (tAsg te (gName i)) (wAsg we (wgName i)) :=
  ⟨ps_set hN hi hx h.pe hs hf, rs_asg (vs := [i]) h.re (rg_name (List.mem_singleton.mpr rfl))⟩
theorem ds_asg {tg : Expr} {g : TG} {wg : WG} {vs : List Nat} (h : DE X L e te we) (hg : DG X L vs tg g wg) (hs : swapsWithSole [tg] e pos.line X.env = pure false := by rfl) (hw : swappedStores [tg] e X.env = pure none := by rfl)
    (h1 : (assignEach [tg] X.env).map (·.2) = [assign tg X.env] := by rfl) : DS X L (.Assign [tg] e pos) (tAsg te g) (wAsg we wg) := ⟨ps_asg h.pe hg.pg hs hw h1, rs_asg h.re hg.rg⟩
/-- two names, two values: no tuple is made -/
def wPar (i j : Nat) (wa : WA) : WS := fun De ρ S => wa ρ S fun ds ρ1 S1 => ∃ x y, ds = [x, y] ∧ De.nx ((ρ1.set i (some x)).set j (some y)) S1
theorem ds_par (i j : Nat) {x y : Str} {a b : Expr} {ta : TA} {wa : WA} {px py pt : Pos} {kt k2 : Nat} {pt2 : Pos} (hc : X.calm = true) (hN : X.N.Nodup) (hij : i ≠ j) (ha : DA X L [a, b] ta wa) (hi : X.N[i]? = some x := by rfl) (hj : X.N[j]? = some y := by rfl)
    (hx : X.env.scope.names.lookup x = some .local := by rfl) (hy : X.env.scope.names.lookup y = some .local := by rfl)
    (hw : swappedStores [.Tuple [.Name x px, .Name y py] kt pt] (.Tuple [a, b] k2 pt2) X.env = pure (some [x, y]) := by rfl)
    (hs : swapsWithSole [.Tuple [.Name x px, .Name y py] kt pt] (.Tuple [a, b] k2 pt2) pos.line X.env = pure false := by rfl) :
    DS X L (.Assign [.Tuple [.Name x px, .Name y py] kt pt] (.Tuple [a, b] k2 pt2) pos) (tPar i j ta) (wPar i j wa) := by
  refine ⟨ps_par hc hN hi hj hij hx hy ha.pa hw hs, fun F ρ S σ H De D m q l => ?_⟩
  refine ha.ra F ρ S σ H _ _ m q fun vs H1 ds ρ1 S1 F1 e1 m1 r1 ⟨u, v, e, q1⟩ => ?_
  subst e
  cases r1 with
  | cons r1 r2 =>
    cases r2 with
    | cons r2 r3 =>
      cases r3
      exact ⟨_, _, rfl, l.nx F1 _ S1 _ H1 e1 ((m1.store r1).store r2) q1⟩
/-- name op= e -/
def RIp (K : PySem.W.Frag) (t : TIp) (wo : D → D → MS → KV2 → Prop) : Prop := RO2 K t wo
def wAug (i : Nat) (wo : D → D → MS → KV2 → Prop) (we : WE) : WS := fun De ρ S => ∃ x, ρ[i]? = some (some x) ∧ we ρ S fun y ρ1 S1 => wo (rd S1 x) (rd S1 y) S1 fun d S2 => De.nx (ρ1.set i (some d)) S2
theorem ds_aug (i : Nat) {x : Str} {op : Operator} {ti : TIp} {wo : D → D → MS → KV2 → Prop} {pos' : Pos} (hN : X.N.Nodup) (ho : PIp X op ti) (hr : RO2 X.K ti wo) (h : DE X L e te we) (hi : X.N[i]? = some x := by rfl) (hx : Loc X.env.scope x := by first | exact Or.inl rfl | exact Or.inr rfl)
    (hf : X.fn x = true ∨ X.env.scope.names.lookup x = some .local := by first | exact .inl rfl | exact .inr rfl | assumption) : DS X L (.AugAssign (.Name x pos') op e pos) (tAug i te ti) (wAug i wo we) := by
  refine ⟨ps_aug hN hi hx h.pe ho hf, fun F ρ S σ H De D m ⟨d, hd, q⟩ l => ?_⟩
  obtain ⟨v, hv, r⟩ := m.sl i d hd
  refine ⟨v, hv, h.re F ρ S σ H _ _ m q fun y H1 dy ρ1 S1 F1 e1 m1 r1 q1 => ?_⟩
  refine hr F1 S1 H1 _ _ v y _ _ m1.fs (rd_ok m1.fs (r.up e1)) (rd_ok m1.fs r1) q1 fun z H2 dz S2 F2 e2 x2 r2 q2 => ?_
  exact l.nx F2 _ S2 _ H2 (e1.trans e2) ((m1.step e2 x2).store r2) q2
end
/-! ### what is walked -/
structure WalkD (K : PySem.W.Frag) (F : Hp) (J : It) (ds : List D) (g : MS → Prop) : Prop where
  goes : ∀ i F' S' H', i < ds.length → ExF F F' → FS K F' S' H' → g S' → J.go i H'
  stops : ∀ F' S' H', ExF F F' → FS K F' S' H' → g S' → J.stop ds.length H'
  yields : ∀ i F' S' H' x H2, i < ds.length → ExF F F' → FS K F' S' H' → g S' → J.yld i H' x H2 → ∃ d F2, ds[i]? = some d ∧ ExF F' F2 ∧ FS K F2 S' H2 ∧ Rep K F2 d x
abbrev WI := Rho → MS → (List D → (MS → Prop) → Rho → MS → Prop) → Prop
def RI (K : PySem.W.Frag) (L : Lk) (t : TI) (w : WI) : Prop := ∀ F ρ S σ H (Q : List D → (MS → Prop) → Rho → MS → Prop) (R : It → Hp → Prop), Mt K L F ρ S σ H → w ρ S Q →
  (∀ J H' ds g ρ' S' F', ExF F F' → Mt K L F' ρ' S' σ H' → WalkD K F' J ds g → Q ds g ρ' S' → R J H') → t σ H R
structure DI (X : Cx) (L : Lk) (tg iter : Expr) (t : TI) (w : WI) : Prop where
  pi : PI X tg iter t
  ri : RI X.K L t w
def noG : MS → Prop := fun _ => True
/-! ### for -/
def forW (g : MS → Prop) (wg : WG) (wb : WS) (De : DEnds) : List D → Rho → MS → Prop
  | [] => fun ρ S => g S ∧ De.nx ρ S
  | d :: r => fun ρ S => g S ∧ wg d ρ S fun ρ1 S1 => wb { De with nx := forW g wg wb De r, ct := forW g wg wb De r, bk := De.nx } ρ1 S1
theorem forW_g {g : MS → Prop} {wg : WG} {wb : WS} {De : DEnds} : ∀ {ds : List D} {ρ : Rho} {S : MS}, forW g wg wb De ds ρ S → g S
  | [], _, _, h => h.1
  | _ :: _, _, _, h => h.1
def wFor (wi : WI) (wg : WG) (wb : WS) : WS := fun De ρ S => wi ρ S fun ds g ρ1 S1 => forW g wg wb De ds ρ1 S1
section
variable {X : Cx} {L : Lk} {pos : Pos} {K : PySem.W.Frag}
theorem walk_of_d {F : Hp} {J : It} {ds : List D} {g : MS → Prop} (w : WalkD K F J ds g) :
    Walk J ds.length (fun H => ∃ F' S', ExF F F' ∧ FS K F' S' H ∧ g S') (fun i H x H2 => ∀ F' S', ExF F F' → FS K F' S' H → g S' → ∃ d F2, ds[i]? = some d ∧ ExF F' F2 ∧ FS K F2 S' H2 ∧ Rep K F2 d x) :=
  ⟨fun i H hi ⟨F', S', e, x, h⟩ => w.goes i F' S' H hi e x h, fun H ⟨F', S', e, x, h⟩ => w.stops F' S' H e x h, fun i H x H2 hi _ y F' S' e z h => w.yields i F' S' H x H2 hi e z h y⟩
theorem rs_for {ti : TI} {wi : WI} {g : TG} {wg : WG} {tb : TS} {wb : WS} {vs : List Nat} (hi : RI K L ti wi) (hg : RG K L vs g wg) (hb : RS K L tb wb) : RS K L (tFor ti g tb) (wFor wi wg wb) := by
  intro F ρ S σ H De D m q l
  refine hi F ρ S σ H _ _ m q fun J H1 ds gd ρ1 S1 F1 e1 m1 wk q1 => ?_
  refine for_it (walk_of_d wk) (fun i σ H => ∃ F' ρ' S', ExF F1 F' ∧ Mt K L F' ρ' S' σ H ∧ forW gd wg wb De (ds.drop i) ρ' S') ⟨F1, ρ1, S1, ExF.refl F1, m1, q1⟩ (fun i σ H _ ⟨F', ρ', S', e, m', q'⟩ => ⟨F', S', e, m'.fs, forW_g q'⟩) ?_ ?_
  · rintro i x σ2 H2 H3 hlt ⟨F', ρ', S', e, m', q'⟩ y
    obtain ⟨d, F3, hd, e3, x3, r3⟩ := y F' S' e m'.fs (forW_g q')
    have hdrop : ds.drop i = d :: ds.drop (i + 1) := by
      obtain ⟨h1, h2⟩ := List.getElem?_eq_some_iff.mp hd
      rw [← h2]
      exact List.drop_eq_getElem_cons h1
    rw [hdrop] at q'
    have m3 := m'.step e3 x3
    refine hg F3 ρ' S' σ2 H3 d x _ _ m3 r3 q'.2 fun F4 ρ4 S4 σ4 H4 e4 m4 _ q4 => ?_
    have ex4 : ExF F1 F4 := (e.trans e3).trans e4
    refine hb F4 ρ4 S4 σ4 H4 _ _ m4 q4 ⟨fun F5 ρ5 S5 σ5 H5 e5 m5 q5 => ⟨F5, ρ5, S5, ex4.trans e5, m5, q5⟩, fun F5 S5 H5 v d e5 => l.rt F5 S5 H5 v d ((e1.trans ex4).trans e5), fun F5 ρ5 S5 σ5 H5 e5 => l.nx F5 ρ5 S5 σ5 H5 ((e1.trans ex4).trans e5), fun F5 ρ5 S5 σ5 H5 e5 m5 q5 => ⟨F5, ρ5, S5, ex4.trans e5, m5, q5⟩⟩
  · rintro σ2 H2 ⟨F', ρ', S', e, m', q'⟩
    rw [List.drop_length] at q'
    exact l.nx F' ρ' S' σ2 H2 (e1.trans e) m' q'.2
theorem ds_for {tg iter : Expr} {body : List Stmt} {ti : TI} {wi : WI} {g : TG} {wg : WG} {tb : TS} {wb : WS} {vs : List Nat} (hp : PassesOwn (model X.prog X.w) X.A X.env X.xe) (hc : X.calm = true) (hi : DI X L tg iter ti wi) (hg : DG X L vs tg g wg) (hb : DB X L body tb wb)
    (hs : ∀ x, foldedSetIterable iter X.env x = pure x := by intro _; rfl) : DS X L (.For tg iter body [] pos) (tFor ti g tb) (wFor wi wg wb) := ⟨ps_for hp hc hi.pi hg.pg hb.ps hs, rs_for hi.ri hg.rg hb.rs⟩
/-- while: the invariant by a measure -/
def wWhile (c : WT) (wb : WS) : WS := fun De ρ S => ∃ W : Nat → Rho → MS → Prop, (∃ n, W n ρ S) ∧ ∀ n ρ S, W n ρ S →
  c ρ S fun b ρ1 S1 => if b = true then wb { De with nx := fun ρ' S' => ∃ n', n' < n ∧ W n' ρ' S', ct := fun ρ' S' => ∃ n', n' < n ∧ W n' ρ' S', bk := De.nx } ρ1 S1 else De.nx ρ1 S1
theorem rs_while {tc : TT} {wc : WT} {tb : TS} {wb : WS} (hc : RT K L tc wc) (hb : RS K L tb wb) : RS K L (tWhile tc tb) (wWhile wc wb) := by
  rintro F ρ S σ H De D m ⟨W, ⟨n0, w0⟩, q⟩ l
  refine ⟨fun n σ' H' => ∃ F' ρ' S', ExF F F' ∧ Mt K L F' ρ' S' σ' H' ∧ W n ρ' S', ⟨n0, F, ρ, S, ExF.refl F, m, w0⟩, ?_⟩
  rintro n σ' H' ⟨F', ρ', S', e, m', w'⟩
  refine hc F' ρ' S' σ' H' _ _ m' (q n ρ' S' w') fun b H1 ρ1 S1 F1 e1 m1 q1 => ?_
  have ex1 := e.trans e1
  cases b with
  | true =>
    rw [if_pos rfl] at q1 ⊢
    refine ⟨fun σ2 H2 => ∃ F2 ρ2 S2, ExF F F2 ∧ Mt K L F2 ρ2 S2 σ2 H2 ∧ ∃ n', n' < n ∧ W n' ρ2 S2, fun σ2 H2 ⟨F2, ρ2, S2, e2, m2, n', hn, w2⟩ => ⟨n', hn, F2, ρ2, S2, e2, m2, w2⟩, ?_⟩
    exact hb F1 ρ1 S1 σ' H1 _ _ m1 q1 ⟨fun F5 ρ5 S5 σ5 H5 e5 m5 q5 => ⟨F5, ρ5, S5, ex1.trans e5, m5, q5⟩, fun F5 S5 H5 v d e5 => l.rt F5 S5 H5 v d (ex1.trans e5), fun F5 ρ5 S5 σ5 H5 e5 => l.nx F5 ρ5 S5 σ5 H5 (ex1.trans e5), fun F5 ρ5 S5 σ5 H5 e5 m5 q5 => ⟨F5, ρ5, S5, ex1.trans e5, m5, q5⟩⟩
  | false =>
    rw [if_neg Bool.false_ne_true] at q1 ⊢
    exact l.nx F1 ρ1 S1 σ' H1 ex1 m1 q1
theorem ds_while {c : Expr} {body : List Stmt} {tc : TT} {wc : WT} {tb : TS} {wb : WS} (hp : PassesOwn (model X.prog X.w) X.A X.env X.xe) (hc : DT X L c tc wc) (hb : DB X L body tb wb) : DS X L (.While c body [] pos) (tWhile tc tb) (wWhile wc wb) :=
  ⟨ps_while hp hc.pt hb.ps, rs_while hc.rt hb.rs⟩
end
/-! ### comprehensions -/
/-- the list that is made stands at a -/
def compW (a : Addr) (g : MS → Prop) (wg : WG) (wt : WT) (we : WE) (Q : MS → Prop) (ρ0 : Rho) : List D → MS → Prop
  | [] => fun S => g S ∧ Q S
  | d :: r => fun S => g S ∧ wg d ρ0 S fun ρ1 S1 => wt ρ1 S1 fun b ρ2 S2 => if b = true then we ρ2 S2 fun x _ S3 => ∃ acc, S3 a = some (.lst acc) ∧ acc.length < sizeLine ∧ compW a g wg wt we Q ρ0 r (S3.set a (.lst (acc ++ [x]))) else compW a g wg wt we Q ρ0 r S2
theorem compW_g {a : Addr} {g : MS → Prop} {wg : WG} {wt : WT} {we : WE} {Q : MS → Prop} {ρ0 : Rho} : ∀ {ds : List D} {S : MS}, compW a g wg wt we Q ρ0 ds S → g S
  | [], _, h => h.1
  | _ :: _, _, h => h.1
def wipeR (ρ : Rho) : List Nat → Rho
  | [] => ρ
  | v :: vs => (wipeR ρ vs).set v none
def endL (m : Bool) (a : Addr) (S : MS) (Q : KV2) : Prop := ∃ acc, S a = some (.lst acc) ∧ if m = true then Q (.ref a) S else Q (.lst acc) (S.del a)
def wLc (m : Bool) (vs : List Nat) (wi : WI) (wg : WG) (wt : WT) (we : WE) : WE := fun ρ S Q => wi ρ S fun ds g ρ1 S1 => ∀ a, S1 a = none → compW a g wg wt we (fun S2 => endL m a S2 fun d S3 => Q d ρ1 S3) (wipeR ρ1 vs) ds (S1.set a (.lst []))
structure DTs (X : Cx) (L : Lk) (ifs : List Expr) (t : TT) (w : WT) : Prop where
  pts : PTs X ifs t
  rt : RT X.K L t w
def wYes : WT := fun ρ S Q => Q true ρ S
section
variable {X : Cx} {L : Lk} {pos : Pos} {K : PySem.W.Frag}
theorem rt_yes : RT K L tYes wYes := fun F ρ S σ H Q R m q k => k true H ρ S F (ExF.refl F) m q
theorem dts_nil : DTs X L [] tYes wYes := ⟨pts_nil, rt_yes⟩
theorem dts_one {c : Expr} {t : TT} {w : WT} (h : DT X L c t w) : DTs X L [c] t w := ⟨pts_one h.pt, h.rt⟩
theorem wipeR_length (ρ : Rho) : ∀ vs, (wipeR ρ vs).length = ρ.length
  | [] => rfl
  | v :: vs => by rw [show wipeR ρ (v :: vs) = (wipeR ρ vs).set v none from rfl, List.length_set, wipeR_length ρ vs]
theorem wipeR_some {ρ : Rho} {j : Nat} {d : D} : ∀ {vs : List Nat}, (wipeR ρ vs)[j]? = some (some d) → ρ[j]? = some (some d) ∧ j ∉ vs
  | [], h => ⟨h, by simp⟩
  | v :: vs, h => by
    rw [show wipeR ρ (v :: vs) = (wipeR ρ vs).set v none from rfl] at h
    by_cases hv : v = j
    · subst hv
      by_cases hl : v < (wipeR ρ vs).length
      · rw [List.getElem?_set_self hl] at h
        cases h
      · rw [List.getElem?_eq_none (by simpa using hl)] at h
        cases h
    · rw [List.getElem?_set_ne hv] at h
      obtain ⟨h1, h2⟩ := wipeR_some h
      exact ⟨h1, by simp only [List.mem_cons, not_or]; exact ⟨fun z => hv z.symm, h2⟩⟩
theorem Mt.wipe {F : Hp} {ρ : Rho} {S : MS} {σ : L2.St} {H : Hp} (m : Mt K L F ρ S σ H) (vs : List Nat) : Mt K L F (wipeR ρ vs) S (wipe σ vs) H := by
  refine ⟨m.fs, fun j d h => ?_, by rw [wipeR_length, wipe_length]; exact m.len, m.lk⟩
  obtain ⟨h1, h2⟩ := wipeR_some h
  obtain ⟨v, h3, r⟩ := m.sl j d h1
  exact ⟨v, by rw [wipe_get, if_neg (fun z => h2 z.1)]; exact h3, r⟩
/-- back from the block: the slots are as they were -/
theorem Mt.back {F F' : Hp} {ρ ρ' : Rho} {S S' : MS} {σ σ' : L2.St} {H H' : Hp} (m : Mt K L F ρ S σ H) (e : ExF F F') (x : FS K F' S' H') : Mt K L F' ρ S' σ H' := m.step e x
theorem re_lc {mu : Bool} {vs : List Nat} {ti : TI} {wi : WI} {g : TG} {wg : WG} {tt : TT} {wt : WT} {te : TE} {we : WE} (hi : RI K L ti wi) (hg : RG K L vs g wg) (ht : RT K L tt wt) (he : RE K L te we) : RE K L (tLc ti g tt te vs) (wLc mu vs wi wg wt we) := by
  intro F ρ S σ H Q R m q k
  refine hi F ρ S σ H _ _ m q fun J H1 ds gd ρ1 S1 F1 e1 m1 wk q1 => ?_
  intro p hp
  obtain ⟨sp, fp⟩ := m1.fs.notS hp
  have x0 : FS K F1 (S1.set p (.lst [])) (upd H1 p (.lst [])) := m1.fs.alloc (m := .lst []) hp rfl ⟨[], upd_same, .nil⟩
  refine lc_it (walk_of_d wk) (fun i H => ∃ F' S', ExF F1 F' ∧ FS K F' S' H ∧ compW p gd wg wt we (fun S2 => endL mu p S2 fun d S3 => Q d ρ1 S3) (wipeR ρ1 vs) (ds.drop i) S') ⟨F1, _, ExF.refl F1, x0, q1 p sp⟩ (fun i H _ ⟨F', S', e, x', q'⟩ => ⟨F', S', e, x', compW_g q'⟩) ?_ ?_
  · rintro i x H2 H3 hlt ⟨F', S', e, x', q'⟩ y
    obtain ⟨d, F3, hd, e3, x3, r3⟩ := y F' S' e x' (compW_g q')
    have hdrop : ds.drop i = d :: ds.drop (i + 1) := by
      obtain ⟨h1, h2⟩ := List.getElem?_eq_some_iff.mp hd
      rw [← h2]
      exact List.drop_eq_getElem_cons h1
    rw [hdrop] at q'
    have m3 : Mt K L F3 (wipeR ρ1 vs) S' (L2.wipe σ vs) H3 := (m1.wipe vs).step (e.trans e3) x3
    have fin : ∀ {F5 : Hp} {S5 : MS} {H5 : Hp}, ExF F3 F5 → FS K F5 S5 H5 → compW p gd wg wt we (fun S2 => endL mu p S2 fun d S3 => Q d ρ1 S3) (wipeR ρ1 vs) (ds.drop (i + 1)) S5 →
        ∃ F' S', ExF F1 F' ∧ FS K F' S' H5 ∧ compW p gd wg wt we (fun S2 => endL mu p S2 fun d S3 => Q d ρ1 S3) (wipeR ρ1 vs) (ds.drop (i + 1)) S' := fun e5 x5 q5 => ⟨_, _, (e.trans e3).trans e5, x5, q5⟩
    refine hg F3 _ S' _ H3 d x _ _ m3 r3 q'.2 fun F4 ρ4 S4 σ4 H4 e4 m4 w4 q4 => ⟨by
      rw [w4]
      exact wipe_eq (wipe_length σ vs) fun j hj => by rw [wipe_get, if_neg (fun z => hj z.1)], ?_⟩
    refine ht F4 ρ4 S4 σ4 H4 _ _ m4 q4 fun b H5 ρ5 S5 F5 e5 m5 q5 => ?_
    cases b with
    | false =>
      rw [if_neg Bool.false_ne_true] at q5 ⊢
      exact fin (e4.trans e5) m5.fs q5
    | true =>
      rw [if_pos rfl] at q5 ⊢
      refine he F5 ρ5 S5 σ4 H5 _ _ m5 q5 fun v H6 dv ρ6 S6 F6 e6 m6 r6 ⟨acc, ha, hz, q6⟩ => ?_
      obtain ⟨_, us, hu, ru⟩ := m6.fs.st p _ ha
      refine ⟨us, hu, by rw [← ru.length]; exact hz, fin ((e4.trans e5).trans e6) (m6.fs.write (n := .lst (acc ++ [dv])) ha rfl ⟨us ++ [v], upd_same, ru.append (.cons r6 .nil)⟩) q6⟩
  · rintro H2 ⟨F', S', e, x', q'⟩
    rw [List.drop_length] at q'
    obtain ⟨acc, ha, q2⟩ := q'.2
    cases mu with
    | true =>
      rw [if_pos rfl] at q2
      exact k _ H2 _ ρ1 S' F' (e1.trans e) (m1.step e x') (.ref p) q2
    | false =>
      rw [if_neg Bool.false_ne_true] at q2
      obtain ⟨us, hu, ru, xf⟩ := x'.freeze ha
      have fp' := (x'.st p _ ha).1
      have e2 : ExF F' (upd F' p (.lst us)) := ExF.new fp'
      exact k _ H2 _ ρ1 _ _ ((e1.trans e).trans e2) (m1.step (e.trans e2) xf) (.lst (.inl upd_same) (ru.up e2)) q2
theorem de_lc (mu : Bool) {elt tg iter : Expr} {ifs : List Expr} {scope : Scope} {ti : TI} {wi : WI} {g : TG} {wg : WG} {tt : TT} {wt : WT} {te : TE} {we : WE} (own : List (Str × Nat)) (hc : X.calm = true) (hN : X.N.Nodup) (hi : DI X L tg iter ti wi) (ok : BlkOk X.N X.env.scope scope own)
    (hg : ∀ (s : Shared) (H : Hp) (C : Addr) (cl : List (Str × Addr)) (fp : List Addr), DG (X.blk s H scope (compEnvC scope cl C X.env) fp) L (own.map (·.2)) tg g wg) (ht : ∀ (s : Shared) (H : Hp) (C : Addr) (cl : List (Str × Addr)) (fp : List Addr), DTs (X.blk s H scope (compEnvC scope cl C X.env) fp) L ifs tt wt)
    (he : ∀ (s : Shared) (H : Hp) (C : Addr) (cl : List (Str × Addr)) (fp : List Addr), DE (X.blk s H scope (compEnvC scope cl C X.env) fp) L elt te we) (hs : ∀ x, foldedSetIterable iter X.env x = pure x := by intro _; rfl) :
    DE X L (.ListComp elt [⟨tg, iter, ifs, 0⟩] scope pos) (tLc ti g tt te (own.map (·.2))) (wLc mu (own.map (·.2)) wi wg wt we) :=
  ⟨pe_lc hc hN hi.pi ok (fun s H C cl fp => (hg s H C cl fp).pg) (fun s H C cl fp => (ht s H C cl fp).pts) (fun s H C cl fp => (he s H C cl fp).pe) hs,
    re_lc hi.ri (hg X.s_0 X.H_0 0 [] []).rg (ht X.s_0 X.H_0 0 [] []).rt (he X.s_0 X.H_0 0 [] []).re⟩
end
end DL
/-! DLG: calls where it is known that no repr is under way. -/
namespace DL
open PySem PySem.Spec PyProof.Rows L2
structure RoomG (k : Nat) (A : Around) : Prop where
  r : Room k A
  g : A.guards = some []
theorem RoomG.mono {j k : Nat} {A : Around} (h : RoomG k A) (l : j ≤ k) : RoomG j A := ⟨h.r.mono l, h.g⟩
theorem RoomG.units {k : Nat} {A : Around} (h : RoomG k A) : A.units + 64 < cLine := h.r.units
theorem RoomG.units65 {k : Nat} {A : Around} (h : RoomG k A) : A.units + 65 < cLine := by have := h.r.un; omega
structure FnG (P : Program) (w : World) (K : PySem.W.Frag) (mg : Str → Option Value) (base : Heap) (CX : CXT) (k : Nat) (f : Addr) (fd : FuncData) (ps : List Str) (sp : Sp) : Prop where
  len : ∀ vs H Q E, sp vs H Q E → vs.length = ps.length
  run : ∀ (A : Around) (outer : List Env) (s : Shared) (H : Hp) (args : Args) (us : List Value) (vs : List V) (Q : VK) (E : XK), Room k A → A.guards = some [] → Env0 P w K mg base A outer s H → BindsTo s fd args (ps.zip us) → Vals vs us → sp vs H Q E →
    codeAny (model P w) A (.call (.ref f) args) (CR CX outer P w H s Q E) s
theorem FnG.imp {P : Program} {w : World} {K : PySem.W.Frag} {mg : Str → Option Value} {base : Heap} {CX : CXT} {k : Nat} {f : Addr} {fd : FuncData} {ps : List Str} {sp sp' : Sp} (F : FnG P w K mg base CX k f fd ps sp)
    (h : ∀ vs H Q E, sp' vs H Q E → sp vs H Q E) : FnG P w K mg base CX k f fd ps sp' :=
  ⟨fun vs H Q E q => F.len vs H Q E (h _ _ _ _ q), fun A outer s H args us vs Q E hr hG he hb hv hs => F.run A outer s H args us vs Q E hr hG he hb hv (h _ _ _ _ hs)⟩
section
variable {X : Cx} {CX : CXT} {k : Nat} {f C : Addr} {fd : FuncData} {ps : List Str} {sp : Sp} {ds : List Value} {dvs : List V} {E : XK} {x m : Str} {p pos apos : Pos} {e o : Expr} {es : List Expr} {te ta : TE} {t : TA}
theorem run_fnG {pins : List (Addr × Obj)} {σ : L2.St} {H : Hp} {s : Shared} {Q : VK} {us : List Value} {vs : List V} (F : FnG X.prog X.w X.K X.mg X.base CX k f fd ps sp) (hr : Room k X.A) (hG : X.A.guards = some []) (hb : Binds X.K fd ps ds) (hd : Vals dvs ds) (hx : Passes CX X E)
    (I : Inv X pins σ H s) (r : Vals vs us) (h : sp (vs ++ dvs) H Q E) : wpAny (model X.prog X.w) X.A (call (.ref f) us) (EP X pins σ Q) X.xe s := by
  have r2 : Vals (vs ++ dvs) (us ++ ds) := r.append hd
  have hl : (us ++ ds).length = ps.length := by rw [← r2.length]; exact F.len _ _ _ _ h
  refine wpAny_call (codeAny_mono (F.run X.A X.stack s H ⟨us, []⟩ (us ++ ds) (vs ++ dvs) Q E hr hG I.env0 (hb s us I.kIn hl) r2 h) fun r s' hq => ?_)
  cases r with
  | error e => exact hx pins σ H s e s' I hq
  | ok fl =>
    cases fl with
    | ret u => exact I.after hq
    | next => exact False.elim hq
    | brk => exact False.elim hq
    | cont => exact False.elim hq
theorem pe_callG (F : FnG X.prog X.w X.K X.mg X.base CX k f fd ps sp) (hr : Room k X.A) (hG : X.A.guards = some []) (hg : Gl X x) (hm : X.mg x = some (.ref f)) (hk : PySem.W.keepIn X.K (.ref f) = true) (hb : Binds X.K fd ps ds) (hd : Vals dvs ds) (hx : Passes CX X E)
    (ha : PA X (e :: es) t) (hdb : (x == ("__debug__" : Str)) = false := by decide) (he : starEach (e :: es) X.env = (false, eval e X.env) :: starEach es X.env := by rfl) (hpl : (backTo pos (starEach es X.env)).any (·.1) = false := by rfl) :
    PE X (.Call (.Name x p) (e :: es) [] pos) (tCall sp dvs E t) := by
  refine ⟨fun pins s σ H Q I h => ?_⟩
  refine wpAny_Call_Name_kw (ld_glob I hg hm ?_ hdb)
  refine PySem.W.callWith_K (h₀ := X.base) I.ok.mod.kin hk (thn (ha.run pos pins s σ H _ I h) fun us s1 ⟨vs, H1, I1, r, q⟩ => ⟨I1.kIn, ?_⟩) he hpl
  exact run_fnG F hr hG hb hd hx I1 r q
theorem pe_call0G (F : FnG X.prog X.w X.K X.mg X.base CX k f fd ps sp) (hr : Room k X.A) (hG : X.A.guards = some []) (hg : Gl X x) (hm : X.mg x = some (.ref f)) (hk : PySem.W.keepIn X.K (.ref f) = true) (hb : Binds X.K fd ps ds) (hd : Vals dvs ds) (hx : Passes CX X E)
    (hdb : (x == ("__debug__" : Str)) = false := by decide) : PE X (.Call (.Name x p) [] [] pos) (tCall sp dvs E tNil) := by
  refine ⟨fun pins s σ H Q I h => ?_⟩
  refine wpAny_Call_Name_kw (ld_glob I hg hm ?_ hdb)
  exact PySem.W.callWith_K0 I.kIn hk (run_fnG (us := []) F hr hG hb hd hx I .nil h)
theorem pe_methG {pl : Sem Bool} (he : PE X o ta) (c : Cls X.K C) (hm : Meth X.K C m f) (F : FnG X.prog X.w X.K X.mg X.base CX k f fd ps sp) (hr : Room k X.A) (hG : X.A.guards = some []) (hb : Binds X.K fd ps ds) (hd : Vals dvs ds) (hx : Passes CX X E) (ha : PA X (e :: es) t)
    (hst : starEach (e :: es) X.env = (false, eval e X.env) :: starEach es X.env := by rfl) (hpl : (backTo pos (starEach es X.env)).any (·.1) = false := by rfl)
    (ht : eval (.Call (.Attribute o m apos) (e :: es) [] pos) X.env = (do
      let ov ← eval o X.env
      standAt apos.atName
      let (f, first) ← holding [ov] (getMethod ov m pl)
      callWith pos f first (backTo pos (starEach (e :: es) X.env)) (backToKw pos (keywordEach [] X.env))) := by rfl) :
    PE X (.Call (.Attribute o m apos) (e :: es) [] pos) (tMeth C m sp dvs E ta t) := by
  refine ⟨fun pins s σ H Q I h => ?_⟩
  refine PySem.W.methodCall_KW (pl := pl) (thn (he.run pins s σ H _ I h) fun u s1 ⟨x, H1, I1, rx, a, dx, fs, ex, ea, l, q⟩ => ?_) ht
  subst ex
  obtain rfl : u = Value.ref a := rx
  refine getmeth_ok I1 ea c hm l ?_
  refine PySem.W.callWith_K (first := [.ref a]) (h₀ := X.base) I.ok.mod.kin hm.kp (thn (ha.run pos pins s1 σ H1 _ I1 q) fun us s2 ⟨vs, H2, I2, r, q2⟩ => ⟨I2.kIn, ?_⟩) hst hpl
  exact run_fnG (us := .ref a :: us) (vs := .ref a :: vs) F hr hG hb hd hx I2 (.cons rfl r) q2
theorem pe_meth0G {pl : Sem Bool} (he : PE X o ta) (c : Cls X.K C) (hm : Meth X.K C m f) (F : FnG X.prog X.w X.K X.mg X.base CX k f fd ps sp) (hr : Room k X.A) (hG : X.A.guards = some []) (hb : Binds X.K fd ps ds) (hd : Vals dvs ds) (hx : Passes CX X E)
    (ht : eval (.Call (.Attribute o m apos) [] [] pos) X.env = (do
      let ov ← eval o X.env
      standAt apos.atName
      let (f, first) ← holding [ov] (getMethod ov m pl)
      callWith pos f first (backTo pos (starEach [] X.env)) (backToKw pos (keywordEach [] X.env))) := by rfl) :
    PE X (.Call (.Attribute o m apos) [] [] pos) (tMeth C m sp dvs E ta tNil) := by
  refine ⟨fun pins s σ H Q I h => ?_⟩
  refine PySem.W.methodCall_KW (pl := pl) (thn (he.run pins s σ H _ I h) fun u s1 ⟨x, H1, I1, rx, a, dx, fs, ex, ea, l, q⟩ => ?_) ht
  subst ex
  obtain rfl : u = Value.ref a := rx
  refine getmeth_ok I1 ea c hm l ?_
  exact PySem.W.callWith_K0 (first := [.ref a]) I1.kIn hm.kp (run_fnG (us := [.ref a]) (vs := [.ref a]) F hr hG hb hd hx I1 (.cons rfl .nil) q)
theorem guards_make {A : Around} (h : A.guards = some []) (C : Addr) (us : List Value) : (A.under (.builtin "type.__call__" ⟨.ref C :: us, []⟩)).guards = some [] := by
  have e : (Code.builtin "type.__call__" ⟨.ref C :: us, []⟩).guards = [] := by
    have : (Code.builtin "type.__call__" ⟨.ref C :: us, []⟩).isGuard = false := by show guardIds.contains "type.__call__" = false; decide +kernel
    simp [Code.guards, this]
  simp only [Around.under, e, pushGuards, h]
theorem run_makeG {pins : List (Addr × Obj)} {σ : L2.St} {H : Hp} {s : Shared} {Q : VK} {us : List Value} {vs : List V} (M : Mk X.K C f) (F : FnG X.prog X.w X.K X.mg X.base CX k f fd ps sp) (hr : Room (k + 1) X.A) (hG : X.A.guards = some []) (hb : Binds X.K fd ps ds) (hd : Vals dvs ds)
    (hx : Passes CX X E) (I : Inv X pins σ H s) (r : Vals vs us)
    (h : ∀ x dx, H x = none → H dx = none → dx ≠ x → sp (.ref x :: (vs ++ dvs)) (upd (upd H dx (.own x)) x (.ins C dx [])) (fun v H2 => v = .non ∧ Q (.ref x) H2) E) :
    wpAny (model X.prog X.w) X.A (call (.ref C) us) (EP X pins σ Q) X.xe s := by
  have hq := h (s.heap.objs.size + 1) s.heap.objs.size (I.hok.fresh (Nat.le_succ _)) (I.hok.fresh (Nat.le_refl _)) (Nat.ne_of_lt (Nat.lt_succ_self _))
  have I2 := Inv.made (C := C) I
  have r2 : Vals (V.ref (s.heap.objs.size + 1) :: (vs ++ dvs)) (Value.ref (s.heap.objs.size + 1) :: (us ++ ds)) := .cons rfl (r.append hd)
  have hl : (Value.ref (s.heap.objs.size + 1) :: us ++ ds).length = ps.length := by
    have e := r2.length
    rw [F.len _ _ _ _ hq] at e
    exact e.symm
  refine wpAny_call (make_map (f := f) I.kIn M.makes M.init (beq_iff_eq.mp M.fn) (codeAny_mono (F.run _ X.stack _ _ ⟨Value.ref (s.heap.objs.size + 1) :: us, []⟩ (Value.ref (s.heap.objs.size + 1) :: (us ++ ds)) _ _ E (hr.make C us []) (guards_make hG C us)
    (I2.env0.make C us []) (hb _ (Value.ref (s.heap.objs.size + 1) :: us) I2.kIn hl) r2 hq) fun r s' hq' => ?_))
  cases r with
  | error e => exact hx pins σ _ _ e s' I2 hq'
  | ok fl =>
    cases fl with
    | ret u =>
      obtain ⟨v, H', I3, rv, ev, q3⟩ := I2.after hq'
      subst ev
      exact ⟨rv, ⟨V.ref (s.heap.objs.size + 1), H', I3, rfl, q3⟩⟩
    | next => exact False.elim hq'
    | brk => exact False.elim hq'
    | cont => exact False.elim hq'
theorem pe_makeG (M : Mk X.K C f) (F : FnG X.prog X.w X.K X.mg X.base CX k f fd ps sp) (hr : Room (k + 1) X.A) (hG : X.A.guards = some []) (hg : Gl X x) (hm : X.mg x = some (.ref C)) (hb : Binds X.K fd ps ds) (hd : Vals dvs ds) (hx : Passes CX X E)
    (ha : PA X (e :: es) t) (hdb : (x == ("__debug__" : Str)) = false := by decide) (he : starEach (e :: es) X.env = (false, eval e X.env) :: starEach es X.env := by rfl) (hpl : (backTo pos (starEach es X.env)).any (·.1) = false := by rfl) :
    PE X (.Call (.Name x p) (e :: es) [] pos) (tMake C sp dvs E t) := by
  refine ⟨fun pins s σ H Q I h => ?_⟩
  refine wpAny_Call_Name_kw (ld_glob I hg hm ?_ hdb)
  refine PySem.W.callWith_K (h₀ := X.base) I.ok.mod.kin M.kp (thn (ha.run pos pins s σ H _ I h) fun us s1 ⟨vs, H1, I1, r, q⟩ => ⟨I1.kIn, ?_⟩) he hpl
  exact run_makeG M F hr hG hb hd hx I1 r q
theorem pe_make0G (M : Mk X.K C f) (F : FnG X.prog X.w X.K X.mg X.base CX k f fd ps sp) (hr : Room (k + 1) X.A) (hG : X.A.guards = some []) (hg : Gl X x) (hm : X.mg x = some (.ref C)) (hb : Binds X.K fd ps ds) (hd : Vals dvs ds) (hx : Passes CX X E)
    (hdb : (x == ("__debug__" : Str)) = false := by decide) : PE X (.Call (.Name x p) [] [] pos) (tMake C sp dvs E tNil) := by
  refine ⟨fun pins s σ H Q I h => ?_⟩
  refine wpAny_Call_Name_kw (ld_glob I hg hm ?_ hdb)
  exact PySem.W.callWith_K0 I.kIn M.kp (run_makeG (us := []) M F hr hG hb hd hx I .nil h)
end
theorem fn_ofG {CX : CXT} {P : Program} {w : World} {K : PySem.W.Frag} {mg : Str → Option Value} {base : Heap} {k : Nat} {f : Addr} {name qual : Str} {params : Arguments} {body : List Stmt} {scope : Scope} {dV kV doc pm cdv ct oc : Value} {an od : Option Addr}
    {osl : Array (Option Value)} {N ps : List Str} {sp : Sp} (lk : K.lookup f = some ⟨oc, od, .func (PySem.W.fnOf name qual params body scope dV kV doc pm an cdv ct), osl⟩) (hcd : PySem.W.codeIn K cdv qual = true) (S : FnScope N ps scope)
    (len : ∀ vs H Q E, sp vs H Q E → vs.length = ps.length)
    (hbody : ∀ (A : Around) (outer : List Env) (s : Shared) (H : Hp) (vs : List V) (Q : VK) (E : XK), Room k (A.deeper (envOfC qual scope s.heap.objs.size f cdv)) → A.guards = some [] → sp vs H Q E →
      ∃ t, PSs (cxOf CX P w K mg base N qual scope f cdv A outer s H E) body t ∧ t { nx := fun _ H' => Q .non H', rt := Q } (start N vs) H) :
    FnG P w K mg base CX (k + 1) f (PySem.W.fnOf name qual params body scope dV kV doc pm an cdv ct) ps sp := by
  refine ⟨len, fun A outer s H args us vs Q E hr hG e0 hb r hsp => ?_⟩
  have hl := len _ _ _ _ hsp
  have KX : K.In s.heap := e0.mod.kin.keeps fun b o e => (e0.bs b o e).1
  have lim : s.heap.NoLimit := e0.mod.nolimit.keeps fun b o e => (e0.bs b o e).1
  have hkind : ∀ y ∈ ps.zip us, scope.names.lookup y.1 = some .local ∨ (scope.names.lookup y.1 = some .cell ∧ ((cellsFrom (s.heap.objs.size + 1) scope.names []).lookup y.1).isSome = true) := fun ⟨n, v⟩ hy => by
    rcases S.par n (List.of_mem_zip hy).1 with q | q
    · exact .inl q
    · exact .inr ⟨q, PySem.W.cellsFrom_some _ _ _ (.inl q)⟩
  refine codeAny_call_function hr.depth (KX _ _ lk) rfl S.co S.gen rfl (PySem.W.codeRec_of KX hcd) (hb _ _ _ _ ?_)
  refine wpAny_newFunctionEnv_cells S.kind hkind fun env he s1 x => ?_
  subst he
  refine ⟨lim.keeps x.toInCall.keep, codeAny_func ?_⟩
  obtain ⟨t, ht, hq⟩ := hbody A outer s H vs Q E (hr.deeper _) hG hsp
  have I : Inv (cxOf CX P w K mg base N qual scope f cdv A outer s H E) [] (start N vs) H s1 := inv_start S hr.hd e0 hl r x
  refine wpAny_mono (ht.run [] s1 (start N vs) H _ I hq) (fun fl s' hs => ?_) fun e s' hs => hs
  have fin : ∀ {σ' : L2.St} {H' : Hp} {v : V} {u : Value}, Inv (cxOf CX P w K mg base N qual scope f cdv A outer s H E) [] σ' H' s' → RelV v u → Q v H' → CE outer P w H s Q u s' :=
    fun {σ' H' v u} J rv q => ⟨v, H', J.os, J.bare, J.base, J.hok, rv, q⟩
  cases fl with
  | ret u =>
    obtain ⟨v, σ', H', J, rv, q⟩ := hs
    exact fin J rv q
  | next =>
    obtain ⟨σ', H', J, q⟩ := hs
    exact fin (v := V.non) (u := Value.none) J rfl q
  | brk =>
    obtain ⟨_, _, _, q⟩ := hs
    exact False.elim q
  | cont =>
    obtain ⟨_, _, _, q⟩ := hs
    exact False.elim q
section
variable {P : Program} {w : World} {K : PySem.W.Frag} {mg : Str → Option Value} {base : Heap} {x qual : Str} {params : Arguments} {body : List Stmt} {scope : Scope} {dvs : List V} {kws : List (Str × V)} {f : Addr} {fd : FuncData}
theorem okG {CX : CXT} {N ps : List Str} {k : Nat} {sp : Sp} (F : FunD K x qual params body scope dvs kws f fd) (S : FnScope N ps scope) (len : ∀ vs H Q E, sp vs H Q E → vs.length = ps.length)
    (hbody : ∀ (cdv : Value) (A : Around) (outer : List Env) (s : Shared) (H : Hp) (vs : List V) (Q : VK) (E : XK), Room k (A.deeper (envOfC qual scope s.heap.objs.size f cdv)) → A.guards = some [] → sp vs H Q E →
      ∃ t, PSs (cxOf CX P w K mg base N qual scope f cdv A outer s H E) body t ∧ t { nx := fun _ H' => Q .non H', rt := Q } (start N vs) H) : FnG P w K mg base CX (k + 1) f fd ps sp := by
  obtain ⟨oc, od, dV, kV, doc, pm, an, cdv, ct, osl, rfl, lk, hcd, _, _⟩ := F.ex
  exact fn_ofG lk hcd S len fun A outer s H vs Q E hr hG hsp => hbody cdv A outer s H vs Q E hr hG hsp
end
theorem law_callG {P : Program} {w : World} {K : PySem.W.Frag} {mg mb : Str → Option Value} {CX : CXT} {k : Nat} {fa a : Addr} {fd : FuncData} {x : Str} {sp : Sp} {s₁ : Shared} {vs : List Value} {ns : List Int}
    (KX : K.In s₁.heap) (hns : s₁.heap.Ns mainGlobals mg) (hb : s₁.heap.Ns builtinsNs mb) (hbb : ∀ x : Str, x ≠ "__name__" → mb x = bootBuiltins x) (hlim : s₁.heap.NoLimit) (hg : s₁.gens = #[])
    (ha : s₁.heap.get? a = some { cls := .type "list", data := .seq vs.toArray }) (hi : IntsAre vs ns) (hl : ns.length ≤ sizeLine) (hr : Room k callerA)
    (F : ∀ base : Heap, K.In base → base.Ns mainGlobals mg → FnG P w K mg base CX k fa fd [x] sp) (hbind : ∀ (s : Shared) (u : Value), BindsTo s fd ⟨[u], []⟩ [(x, u)])
    (hsp : ∀ H : Hp, Only H → SqL K H a (ns.map V.int) → sp [.ref a] H (fun v _ => v = .bl true) fun _ _ _ => False)
    (hCX : ∀ H e s', CX [] H s₁ (fun _ _ _ => False) e s' → False) :
    codeAny (model P w) callerA (.call (.ref fa) ⟨[.ref a], []⟩) (fun r s' => r = .ok (.ret (.bool true)) ∧ OldK s₁.heap s'.heap ∧ s'.os = s₁.os ∧ AllBare s'.gens) s₁ := by
  have rv := vals_ints hi
  have lenV := hi.length
  -- from an abstract heap in which nothing but the script may be tracked
  have core : ∀ H : Hp, Only H → SqL K H a (ns.map V.int) → HOk P w H s₁.heap → (∀ b, H b ≠ none → b = a) → (H a ≠ none → K.lookup a = none) →
      codeAny (model P w) callerA (.call (.ref fa) ⟨[.ref a], []⟩) (fun r s' => r = .ok (.ret (.bool true)) ∧ OldK s₁.heap s'.heap ∧ s'.os = s₁.os ∧ AllBare s'.gens) s₁ := by
    intro H hO hS hok hA hK
    have base_of : ∀ {b : Addr} {o : Obj}, s₁.heap.get? b = some o → H b = none → (hidT s₁.heap H).get? b = some o := fun e n => hidT_get e n
    have noA : ∀ {b : Addr} {o : Obj} {es : Array DictEntry} {ep : Nat}, s₁.heap.get? b = some o → o.data = .dict es ep → H b = none := fun {b o es ep} e d => by
      cases q : H b with
      | none => rfl
      | some u =>
        have e' : b = a := hA b (by rw [q]; simp)
        subst e'
        rw [ha] at e; cases e
        have d' : Data.seq vs.toArray _ = Data.dict es ep := d
        cases d'
    have nsK : ∀ {b : Addr} {m : Str → Option Value}, s₁.heap.Ns b m → (hidT s₁.heap H).Ns b m := fun {b m} ⟨o, es, ep, e, d, r⟩ => ⟨o, es, ep, base_of e (noA e d), d, r⟩
    have hKb : K.In (hidT s₁.heap H) := fun b o e => base_of (KX b o e) (by
      cases q : H b with
      | none => rfl
      | some u =>
        have e' : b = a := hA b (by rw [q]; simp)
        subst e'
        rw [hK (by rw [q]; simp)] at e; cases e)
    have hM : Mod K mg (hidT s₁.heap H) := ⟨hKb, nsK hns, ⟨mb, nsK hb, hbb⟩, let ⟨mc, h1, h2⟩ := hlim; ⟨mc, nsK h1, h2⟩⟩
    have e0 : Env0 P w K mg (hidT s₁.heap H) callerA [] s₁ H := ⟨rfl, hM, fun b o e => of_hidT e, Nat.le_of_eq (hidT_size _ _), trivial, fun b hb => absurd (show b ∈ ([] : List Addr) from hb) (by simp), hok, .of_eq hg⟩
    refine codeAny_mono ((F _ hKb (nsK hns)).run callerA [] s₁ H ⟨[.ref a], []⟩ [.ref a] [.ref a] _ _ hr rfl e0 (hbind s₁ (.ref a)) (.cons rfl .nil) (hsp H hO hS)) fun r s' h => ?_
    cases r with
    | error e => exact (hCX H e s' h).elim
    | ok fl =>
      cases fl with
      | next => exact False.elim h
      | brk => exact False.elim h
      | cont => exact False.elim h
      | ret u =>
        obtain ⟨v, H', os, bare, un, hok', r', q⟩ := h
        have q' : v = .bl true := q
        subst q'
        obtain rfl : u = Value.bool true := r'
        refine ⟨rfl, OldK.of_keep fun b o e => ?_, os, bare⟩
        cases q : H b with
        | none => exact un.keep b o e q (by intro z; exact absurd (show b ∈ ([] : List Addr) from z) (by simp)) (by simp)
        | some u =>
          rcases hO b with z | ⟨ob, xs, z⟩
          · rw [q] at z; cases z
          · have z2 := un.frzs b ob _ z
            obtain ⟨e1, _⟩ := hok b _ z
            obtain ⟨e2, _⟩ := hok' b _ z2
            rw [e] at e1; cases e1
            exact e2
  cases hk : K.lookup a with
  | some o =>
    -- the script is one of the module's own objects
    have e := KX a o hk
    rw [ha] at e
    cases e
    refine core (fun _ => none) (fun _ => .inl rfl) (.inr ⟨_, vs.toArray, _, hk, rfl, rfl, rfl, by rw [List.size_toArray, lenV]; exact hl, by simpa using rv⟩) (fun b u z => by have z' : (none : Option HO) = some u := z; cases z') (fun b z => absurd rfl z) fun z => absurd rfl z
  | none =>
    refine core (fun b => if b = a then some (.frz { cls := .type "list", data := .seq vs.toArray } (.lst (ns.map V.int))) else none) (fun b => ?_) (.inl (.inr ⟨{ cls := .type "list", data := .seq vs.toArray }, if_pos rfl⟩)) (fun b u z => ?_) (fun b z => ?_) fun _ => hk
    · by_cases hb : b = a
      · exact .inr ⟨_, _, if_pos hb⟩
      · exact .inl (if_neg hb)
    · by_cases hb : b = a
      · have z' := (if_pos hb).symm.trans z
        cases z'
        subst hb
        exact ⟨ha, by rw [List.length_map]; exact hl, vs, _, rv, ha⟩
      · have z' := (if_neg hb).symm.trans z
        cases z'
    · by_cases hb : b = a
      · exact hb
      · exact absurd (if_neg hb) z
theorem walk_ofG {l : PySem.W.OpenLaw} {n k : Nat} {q : Program} {loose : List Str} {XP : (Str → Option Value) → Heap → Prop} {YP : World → Heap → Prop} {d : DefRec} {CX : CXT} {x : Str}
    (hn : l.most = some n) (hn2 : n ≤ sizeLine) (hdf : d.params.defaults = []) (hr : Room k callerA)
    (F : ∀ (w : World) (mg : Str → Option Value) (fa : Addr) (h : Heap), YP w h → h.Ns mainGlobals mg → mg d.name = some (.ref fa) →
      ∃ (K : PySem.W.Frag) (fd : FuncData) (sp : Sp), K.In h ∧ (∀ (s : Shared) (u : Value), BindsTo s fd ⟨[u], []⟩ [(x, u)]) ∧
        (∀ (H : Hp) (a : Addr) (ns : List Int), ns.length ≤ n → Only H → SqL K H a (ns.map V.int) → sp [.ref a] H (fun v _ => v = .bl true) fun _ _ _ => False) ∧
        ∀ base : Heap, K.In base → base.Ns mainGlobals mg → FnG l.prog w K mg base CX k fa fd [x] sp)
    (hCX : ∀ (H : Hp) (s : Shared) (e : Value) (s' : Shared), CX [] H s (fun _ _ _ => False) e s' → False) :
    PySem.W.WalkO q loose XP YP l.row.toRowW d [] (fun f vs => PySem.call f vs) := by
  refine Att.attach_call hn hdf fun w s₀ s₁ mg mb fa o pm cd doc a vs ns G Y ho hd hcd hmg hobj hints hlen hg => ?_
  obtain ⟨K, fd, sp, KX, hb, hsp, hF⟩ := F w mg fa _ Y G.T.g hmg
  exact law_callG KX G.T.g G.T.b G.T.builtins G.T.nolimit hg hobj hints (Nat.le_trans hlen hn2) hr hF hb (fun H hO hS => hsp H a ns hlen hO hS) fun H e s' => hCX H s₁ e s'
end DL
/-! DL4: what a def promises over data; calls. -/
namespace DL
open PySem PySem.Spec PyProof.Rows L2
abbrev DSp := List D → MS → KV2 → DXC → Prop
def noX : DXC := fun _ _ _ => False
def spD (K : PySem.W.Frag) (sp : DSp) : Sp := fun vs H Q E => ∃ ds F S Qd Ed, FS K F S H ∧ Reps K F ds vs ∧ sp ds S Qd Ed ∧
  (∀ v H' d F' S', ExF F F' → FS K F' S' H' → Rep K F' d v → Qd d S' → Q v H') ∧
  ∀ e dd H' C xs F' S', ExF F F' → FS K F' S' H' → ExRep K F' H' e dd C xs → Ed C xs S' → E e dd H'
def startR (N : List Str) (ds : List D) : Rho := ds.map some ++ List.replicate (N.length - ds.length) none
theorem start_reps {K : PySem.W.Frag} {F : Hp} {N : List Str} {ds : List D} {vs : List V} (r : Reps K F ds vs) (i : Nat) (d : D) (h : (startR N ds)[i]? = some (some d)) : ∃ v, (L2.start N vs)[i]? = some (some v) ∧ Rep K F d v := by
  unfold startR at h
  unfold L2.start
  by_cases hi : i < ds.length
  · rw [List.getElem?_append_left (by simpa using hi), List.getElem?_map] at h
    cases e : ds[i]? with
    | none => rw [e] at h; cases h
    | some d' =>
      rw [e] at h
      cases h
      obtain ⟨v, hv, rv⟩ := r.get e
      refine ⟨v, ?_, rv⟩
      rw [List.getElem?_append_left (by rw [List.length_map, ← r.length]; exact hi), List.getElem?_map, hv]
      rfl
  · rw [List.getElem?_append_right (by simpa using hi), List.getElem?_replicate] at h
    split at h <;> cases h
/-- behind the end: what is made on the way may be forgotten -/
def outK (Q : KV2) : KV2 := fun d S' => ∃ S1, Sub S1 S' ∧ Q d S1
def endD (Q : KV2) : DEnds := { nx := fun _ S' => outK Q .non S', rt := outK Q }
section
variable {P : Program} {w : World} {K : PySem.W.Frag} {mg : Str → Option Value} {base : Heap}
theorem mt_start {F : Hp} {S : MS} {H : Hp} {N : List Str} {ds : List D} {vs : List V} {L : Lk} (x : FS K F S H) (r : Reps K F ds vs)
    (lk : ∀ (F' : Hp) (S' : MS) (H' : Hp) (e : Value) (d : Option Addr) (C : Str) (xs : List D), ExF F F' → FS K F' S' H' → ExRep K F' H' e d C xs → L.ex C xs S' → L.E e d H') : Mt K L F (startR N ds) S (L2.start N vs) H :=
  ⟨x, start_reps r, by
    unfold L2.start startR
    simp [r.length], lk⟩
abbrev L0 : Lk := ⟨E0, noX⟩
/-- THE RULE for a def from which nothing is let out -/
theorem fn_d {x qual : Str} {params : Arguments} {body : List Stmt} {scope : Scope} {f : Addr} {fd : FuncData} {N ps : List Str} {k : Nat} {sp : DSp} (Fu : FunD K x qual params body scope [] [] f fd) (S : FnScope N ps scope) (ar : ∀ ds S Q E, sp ds S Q E → ds.length = ps.length)
    (hbody : ∀ (cdv : Value) (A : Around) (outer : List Env) (s : Shared) (H : Hp) (E : XK), RoomG k (A.deeper (envOfC qual scope s.heap.objs.size f cdv)) →
      ∃ t w', DB (cxOf CX0 P w K mg base N qual scope f cdv A outer s H E).nox L0 body t w' ∧ ∀ ds S Q Ed, sp ds S Q Ed → w' (endD Q) (startR N ds) S) : FnG P w K mg base CX0 (k + 1) f fd ps (spD K sp) := by
  refine okG Fu S (fun vs H Q E h => ?_) (fun cdv A outer s H vs Q E hr hG h => ?_)
  · obtain ⟨ds, F, S', Qd, Ed, _, r, h, _⟩ := h
    rw [← r.length]
    exact ar _ _ _ _ h
  · obtain ⟨ds, F, S', Qd, Ed, x0, r, h, kq, ke⟩ := h
    obtain ⟨t, w', hd, hw⟩ := hbody cdv A outer s H E ⟨hr, hG⟩
    refine ⟨t, hd.ps.nox, hd.rs F _ S' _ H _ _ (mt_start x0 r fun _ _ _ _ _ _ _ _ _ _ z => z.elim) (hw ds S' Qd Ed h) ⟨fun F' ρ' S2 σ' H' e m q => ?_, fun F' S2 H' v d e x' rv q => ?_, fun _ _ _ _ _ _ _ z => z.elim, fun _ _ _ _ _ _ _ z => z.elim⟩⟩
    · obtain ⟨S1, s1, q⟩ := q
      exact kq .non H' .non F' S1 e (m.fs.sub s1) .non q
    · obtain ⟨S1, s1, q⟩ := q
      exact kq v H' d F' S1 e (x'.sub s1) rv q
/-- .. that may raise -/
theorem fn_dx {x qual : Str} {params : Arguments} {body : List Stmt} {scope : Scope} {f : Addr} {fd : FuncData} {N ps : List Str} {k : Nat} {sp : DSp} (Fu : FunD K x qual params body scope [] [] f fd) (S : FnScope N ps scope) (ar : ∀ ds S Q E, sp ds S Q E → ds.length = ps.length)
    (hbody : ∀ (cdv : Value) (A : Around) (outer : List Env) (s : Shared) (H : Hp) (E : XK) (Ed : DXC), RoomG k (A.deeper (envOfC qual scope s.heap.objs.size f cdv)) →
      ∃ t w', DB (cxOf (L2.CX P w) P w K mg base N qual scope f cdv A outer s H E) ⟨E, Ed⟩ body t w' ∧ ∀ ds S Q, sp ds S Q Ed → w' (endD Q) (startR N ds) S) : FnG P w K mg base (L2.CX P w) (k + 1) f fd ps (spD K sp) := by
  refine okG Fu S (fun vs H Q E h => ?_) (fun cdv A outer s H vs Q E hr hG h => ?_)
  · obtain ⟨ds, F, S', Qd, Ed, _, r, h, _⟩ := h
    rw [← r.length]
    exact ar _ _ _ _ h
  · obtain ⟨ds, F, S', Qd, Ed, x0, r, h, kq, ke⟩ := h
    obtain ⟨t, w', hd, hw⟩ := hbody cdv A outer s H E Ed ⟨hr, hG⟩
    refine ⟨t, hd.ps, hd.rs F _ S' _ H _ _ (mt_start x0 r fun F' S2 H' e d C xs ex x2 er q => ke e d H' C xs F' S2 ex x2 er q) (hw ds S' Qd h) ⟨fun F' ρ' S2 σ' H' e m q => ?_, fun F' S2 H' v d e x' rv q => ?_, fun _ _ _ _ _ _ _ z => z.elim, fun _ _ _ _ _ _ _ z => z.elim⟩⟩
    · obtain ⟨S1, s1, q⟩ := q
      exact kq .non H' .non F' S1 e (m.fs.sub s1) .non q
    · obtain ⟨S1, s1, q⟩ := q
      exact kq v H' d F' S1 e (x'.sub s1) rv q
end
/-- what a def is to whoever calls it: over every context of this program -/
structure Def (P : Program) (w : World) (K : PySem.W.Frag) (mg : Str → Option Value) (base : Heap) (CX : CXT) (k : Nat) (x : Str) (ps : List Str) (sp : DSp) : Prop where
  ex : ∃ f fd, FnG P w K mg base CX k f fd ps (spD K sp) ∧ mg x = some (.ref f) ∧ PySem.W.keepIn K (.ref f) = true ∧ Binds K fd ps []
/-! ### calls -/
section
variable {X : Cx} {L : Lk} {CX : CXT} {k : Nat} {f : Addr} {fd : FuncData} {ps : List Str} {sp : DSp} {E : XK} {x : Str} {p pos : Pos} {e : Expr} {es : List Expr} {t : TA} {wa : WA} {K : PySem.W.Frag}
/-- a call that raises nothing -/
def wCall (sp : DSp) (wa : WA) : WE := fun ρ S Q => wa ρ S fun ds ρ1 S1 => sp ds S1 (fun d S2 => Q d ρ1 S2) noX
theorem re_call (h : RA K L t wa) : RE K L (tCall (spD K sp) [] E t) (wCall sp wa) := by
  intro F ρ S σ H Q R m q k
  refine h F ρ S σ H _ _ m q fun vs H1 ds ρ1 S1 F1 e1 m1 r1 q1 => ?_
  show spD K sp (vs ++ []) H1 R E
  rw [List.append_nil]
  exact ⟨ds, F1, S1, _, _, m1.fs, r1, q1, fun v H' d F' S' e x r q => k v H' d ρ1 S' F' (e1.trans e) (m1.step e x) r q, fun _ _ _ _ _ _ _ _ _ _ z => z.elim⟩
/-- a call whose errors leave this def, too -/
def wCallX (L : Lk) (sp : DSp) (wa : WA) : WE := fun ρ S Q => wa ρ S fun ds ρ1 S1 => sp ds S1 (fun d S2 => Q d ρ1 S2) L.ex
theorem re_callX (h : RA K L t wa) : RE K L (tCall (spD K sp) [] L.E t) (wCallX L sp wa) := by
  intro F ρ S σ H Q R m q k
  refine h F ρ S σ H _ _ m q fun vs H1 ds ρ1 S1 F1 e1 m1 r1 q1 => ?_
  show spD K sp (vs ++ []) H1 R L.E
  rw [List.append_nil]
  exact ⟨ds, F1, S1, _, _, m1.fs, r1, q1, fun v H' d F' S' e x r q => k v H' d ρ1 S' F' (e1.trans e) (m1.step e x) r q, fun e dd H' C xs F' S' ex x er q => m1.lk F' S' H' e dd C xs ex x er q⟩
theorem de_call (C : Def X.prog X.w X.K X.mg X.base CX k x ps sp) (hr : RoomG k X.A) (hx : Passes CX X E0) (hg : Gl X x) (ha : DA X L (e :: es) t wa) (hdb : (x == ("__debug__" : Str)) = false := by decide) (he : starEach (e :: es) X.env = (false, eval e X.env) :: starEach es X.env := by rfl) (hpl : (backTo pos (starEach es X.env)).any (·.1) = false := by rfl) :
    DE X L (.Call (.Name x p) (e :: es) [] pos) (tCall (spD X.K sp) [] E0 t) (wCall sp wa) := by
  obtain ⟨f, fd, F, hm, hk, hb⟩ := C.ex
  exact ⟨pe_callG F hr.r hr.g hg hm hk hb .nil hx ha.pa hdb he hpl, re_call ha.ra⟩
theorem de_call0 (C : Def X.prog X.w X.K X.mg X.base CX k x ps sp) (hr : RoomG k X.A) (hx : Passes CX X E0) (hg : Gl X x) (hdb : (x == ("__debug__" : Str)) = false := by decide) :
    DE X L (.Call (.Name x p) [] [] pos) (tCall (spD X.K sp) [] E0 tNil) (wCall sp wNil) := by
  obtain ⟨f, fd, F, hm, hk, hb⟩ := C.ex
  exact ⟨pe_call0G F hr.r hr.g hg hm hk hb .nil hx hdb, re_call ra_nil⟩
theorem de_callX (C : Def X.prog X.w X.K X.mg X.base CX k x ps sp) (hr : RoomG k X.A) (hx : Passes CX X L.E) (hg : Gl X x) (ha : DA X L (e :: es) t wa) (hdb : (x == ("__debug__" : Str)) = false := by decide) (he : starEach (e :: es) X.env = (false, eval e X.env) :: starEach es X.env := by rfl) (hpl : (backTo pos (starEach es X.env)).any (·.1) = false := by rfl) :
    DE X L (.Call (.Name x p) (e :: es) [] pos) (tCall (spD X.K sp) [] L.E t) (wCallX L sp wa) := by
  obtain ⟨f, fd, F, hm, hk, hb⟩ := C.ex
  exact ⟨pe_callG F hr.r hr.g hg hm hk hb .nil hx ha.pa hdb he hpl, re_callX ha.ra⟩
end
end DL
/-! DL5: operations on data. -/
namespace DL
open PySem PySem.Spec PyProof.Rows L2
/-! ### ints -/
section
variable {K : PySem.W.Frag} {X : Cx}
theorem KO.int {F : Hp} {S : MS} {H : Hp} {Q : KV2} {R : VK} {i : Int} (k : KO K F Q R) (x : FS K F S H) (q : Q (.int i) S) : R (.int i) H := k.here x (.int i) q
theorem KO.bl {F : Hp} {S : MS} {H : Hp} {Q : KV2} {R : VK} {i : Bool} (k : KO K F Q R) (x : FS K F S H) (q : Q (.bl i) S) : R (.bl i) H := k.here x (.bl i) q
/-- two ints, under C, an int -/
def wII (C : Int → Int → Prop) (g : Int → Int → Int) : D → D → MS → KV2 → Prop
  | .int i, .int j => fun S Q => C i j ∧ Q (.int (g i j)) S
  | _, _ => fun _ _ => False
def wIB (g : Int → Int → Bool) : D → D → MS → KV2 → Prop
  | .int i, .int j => fun S Q => Q (.bl (g i j)) S
  | _, _ => fun _ _ => False
theorem repT_int {F H : Hp} {i : Int} {v : V} (h : RepT K F H (.int i) v) : v = .int i := by
  have h : Rep K F (.int i) v := h
  cases h
  rfl
theorem repT_bl {F H : Hp} {i : Bool} {v : V} (h : RepT K F H (.bl i) v) : v = .bl i := by
  have h : Rep K F (.bl i) v := h
  cases h
  rfl
theorem repT_str {F H : Hp} {i : Str} {v : V} (h : RepT K F H (.str i) v) : v = .str i := by
  have h : Rep K F (.str i) v := h
  cases h
  rfl
theorem repT_non {F H : Hp} {v : V} (h : RepT K F H .non v) : v = .non := by
  have h : Rep K F .non v := h
  cases h
  rfl
theorem ro_II {C : Int → Int → Prop} {g : Int → Int → Int} : RO2 K (rI C fun i j => .int (g i j)) (wII C g) := by
  intro F S H x y vx vy Q R fs rx ry q k
  cases x <;> cases y <;> first | exact q.elim | skip
  rw [repT_int rx, repT_int ry]
  exact ⟨_, _, rfl, rfl, q.1, k.int fs q.2⟩
theorem ro_IB {g : Int → Int → Bool} : RO2 K (rI0 fun i j => .bl (g i j)) (wIB g) := by
  intro F S H x y vx vy Q R fs rx ry q k
  cases x <;> cases y <;> first | exact q.elim | skip
  rw [repT_int rx, repT_int ry]
  exact ⟨_, _, rfl, rfl, k.bl fs q⟩
theorem ro_I0 {g : Int → Int → Int} : RO2 K (rI0 fun i j => .int (g i j)) (wII (fun _ _ => True) g) := by
  intro F S H x y vx vy Q R fs rx ry q k
  cases x <;> cases y <;> first | exact q.elim | skip
  rw [repT_int rx, repT_int ry]
  exact ⟨_, _, rfl, rfl, k.int fs q.2⟩
abbrev wSub := wII (fun _ _ => True) fun i j => i - j
abbrev wDiv := wII CDiv fun i j => i / j
abbrev wMod := wII (fun _ j => 0 < j) fun i j => i % j
abbrev wPow := wII CPow fun i j => i ^ j.toNat
abbrev wLt := wIB fun i j => decide (i < j)
abbrev wLe := wIB fun i j => decide (i ≤ j)
abbrev wGt := wIB fun i j => decide (j < i)
abbrev wGe := wIB fun i j => decide (j ≤ i)
def wNeg : D → MS → KV2 → Prop
  | .int i => fun S Q => Q (.int (-i)) S
  | _ => fun _ _ => False
theorem ro_neg : RO1 K (rU fun i => .int (-i)) wNeg := by
  intro F S H x vx Q R fs rx q k
  cases x <;> first | exact q.elim | skip
  rw [repT_int rx]
  exact ⟨_, rfl, k.int fs q⟩
/-! ### + and * -/
/-- a list that is read -/
theorem lstR {pins : List (Addr × Obj)} {σ : L2.St} {H : Hp} {s : Shared} {l : Addr} {xs : List V} (I : Inv X pins σ H s) (h : Rd H l (.lst xs)) : xs.length ≤ sizeLine ∧ ∃ (its : List Value) (n : Nat), Vals xs its ∧ xs.length = its.length ∧ s.heap.get? l = some { cls := .type "list", data := .seq its.toArray n } := by
  obtain ⟨z, its, n, r, e⟩ := (h.ok I.hok : ObjOk X.prog X.w H s.heap l (.lst xs))
  exact ⟨z, its, n, r, r.length, e⟩
/-- list + list -/
def rCatS : R2 := fun x y H Q => ∃ l b xs zs, x = .ref l ∧ y = .ref b ∧ Rd H l (.lst xs) ∧ Rd H b (.lst zs) ∧ xs.length + zs.length ≤ sizeLine ∧ ∀ p, H p = none → Q (.ref p) (upd H p (.lst (xs ++ zs)))
theorem op_catS : OpR X (binaryOp .Add) rCatS := by
  intro pins s σ H x y v u Q I rx ry h
  obtain ⟨l, b, xs, zs, rfl, rfl, hH, hB, hz, q⟩ := h
  cases rx
  cases ry
  obtain ⟨z, its, n, r, hl, e⟩ := lstR I hH
  obtain ⟨z2, its2, n2, r2, hl2, e2⟩ := lstR I hB
  refine PySem.P.add_list e e2 ?_ (by rw [List.size_toArray, List.size_toArray]; omega)
  have ea : its.toArray ++ its2.toArray = (its ++ its2).toArray := by simp
  rw [ea]
  exact ⟨.ref _, _, I.lnew (t' := s.toks) (r.append r2) (by rw [List.length_append]; omega), rfl, q _ I.fresh⟩
def wAdd (m : Bool) : D → D → MS → KV2 → Prop
  | .int i, .int j => fun S Q => Q (.int (i + j)) S
  | .str i, .str j => fun S Q => i.length + j.length ≤ sizeLine ∧ Q (.str (i ++ j)) S
  | .tup xs, .tup ys => fun S Q => xs.length + ys.length ≤ sizeLine ∧ Q (.tup (xs ++ ys)) S
  | .lst xs, .lst ys => fun S Q => xs.length + ys.length ≤ sizeLine ∧ newL m (xs ++ ys) S Q
  | _, _ => fun _ _ => False
abbrev rStrA : R2 := fun x y H Q => ∃ i j, x = .str i ∧ y = .str j ∧ i.length + j.length ≤ sizeLine ∧ Q (.str (i ++ j)) H
def rAddA (K : PySem.W.Frag) : R2 := fun x y H Q => (rI0 fun i j => .int (i + j)) x y H Q ∨ rStrA x y H Q ∨ rCatF K x y H Q ∨ rCatS x y H Q
theorem op_addA : OpR X (binaryOp .Add) (rAddA X.K) := OpR.or op_add (OpR.or op_add_str (OpR.or op_catF op_catS))
theorem ro_add (m : Bool) : RO2 K (rAddA K) (wAdd m) := by
  intro F S H x y vx vy Q R fs rx ry q k
  cases x <;> cases y <;> first | exact q.elim | skip
  · rw [repT_int rx, repT_int ry]
    exact .inl ⟨_, _, rfl, rfl, k.int fs q⟩
  · rw [repT_str rx, repT_str ry]
    exact .inr (.inl ⟨_, _, rfl, rfl, q.1, k.here fs (.str _) q.2⟩)
  · rename_i xs ys
    obtain ⟨a, vs, rfl, hx, rr, r1⟩ := rx
    obtain ⟨b, us, rfl, hy, rr2, r2⟩ := ry
    refine .inr (.inr (.inl ⟨a, b, vs, us, rfl, rfl, hx, hy, by rw [← rr.length, ← rr2.length]; exact q.1, fun e => ?_, fun _ e => ?_, fun _ _ p o hp ho => ?_⟩))
    · have ex : xs = [] := rr.nil_iff.mp e
      subst ex
      exact k.here fs r2 q.2
    · have ey : ys = [] := rr2.nil_iff.mp e
      subst ey
      have q2 := q.2
      rw [List.append_nil] at q2
      exact k.here fs r1 q2
    · exact newT_ok k fs (rr.append rr2) q.2 hp ho
  · obtain ⟨a, vs, rfl, hx, rr⟩ := rx
    obtain ⟨b, us, rfl, hy, rr2⟩ := ry
    exact .inr (.inr (.inr ⟨a, b, vs, us, rfl, rfl, hx, hy, by rw [← rr.length, ← rr2.length]; exact q.1, fun p hp => newL_ok k fs (rr.append rr2) q.2 hp⟩))
/-- t * 1 -/
theorem tuple_mul1 (l : Addr) (items : Array Value) (n : Nat) (dd : Option Addr) (sl : Array (Option Value)) (u : Tok) :
    Meets (Builtin.«tuple.__mul__» ⟨[.ref l, .int 1 u], []⟩) (fun _ R s => s.heap.get? l = some { cls := .type "tuple", dict := dd, data := .seq items n, slots := sl } ∧ R (.ok (.ret (Value.ref l))) s) :=
  .of_wp fun prog w A R s h => by
    obtain ⟨hp, g, d, tk, os⟩ := s
    obtain ⟨hl, h⟩ := h
    have f1 := AutoSeq1.idx_int
    wp_walk using wpAny_loadPart' hl
    exact ⟨_, rfl, h⟩
theorem tuple_mul0 (l : Addr) (n : Nat) (k : Int) (dd : Option Addr) (sl : Array (Option Value)) (u : Tok) (c0 : (decide (k < -(2 ^ 63)) || decide (k ≥ 2 ^ 63)) = false) :
    Meets (Builtin.«tuple.__mul__» ⟨[.ref l, .int k u], []⟩) (fun _ R s => s.heap.get? l = some { cls := .type "tuple", dict := dd, data := .seq #[] n, slots := sl } ∧ R (.ok (.ret (Value.ref l))) s) :=
  .of_wp fun prog w A R s h => by
    obtain ⟨hp, g, d, tk, os⟩ := s
    obtain ⟨hl, h⟩ := h
    have f1 := AutoSeq1.idx_int
    wp_walk using wpAny_loadPart' hl
    refine wpAny_ite_false (decide_eq_false (by rw [c0]; exact Bool.false_ne_true)) ?_
    wp_walk using wpAny_loadPart' hl
    exact ⟨_, rfl, h⟩
/-- a tuple times an int -/
def rRepU (K : PySem.W.Frag) : R2 := fun x y H Q => ∃ l k xs, x = .ref l ∧ y = .int k ∧ SqT K H l xs ∧ 1 ≤ k ∧ k ≤ 1000 ∧ xs.length ≤ 1000 ∧ (k = 1 ∨ xs = [] → Q (.ref l) H) ∧ (k ≠ 1 → xs ≠ [] → NewT H (List.replicate k.toNat xs).flatten Q)
theorem op_repU : OpR X (binaryOp .Mult) (rRepU X.K) := by
  intro pins s σ H x y v u Q I rx ry h
  obtain ⟨l, k, xs, rfl, rfl, hT, h1, h2, hz, q0, q1⟩ := h
  by_cases hk : k = 1 ∨ xs = []
  · have q := q0 hk
    cases rx
    obtain ⟨t, rfl⟩ := ry
    obtain ⟨its, r, ⟨⟨cls, dd, data, sl⟩, ho, hc, n, hd⟩, hs⟩ := I.tuple hT
    simp only at hc hd
    subst hc hd
    have go : ∀ (m : Meets (Builtin.«tuple.__mul__» ⟨[.ref l, .int k t], []⟩) (fun _ R s => s.heap.get? l = some { cls := .type "tuple", dict := dd, data := .seq its.toArray n, slots := sl } ∧ R (.ok (.ret (Value.ref l))) s)),
        wpAny (model X.prog X.w) X.A (binaryOp .Mult (.ref l) (.int k t)) (EP X pins σ Q) X.xe s := fun m =>
      wpAny_binaryOp_repeat_ref (T := "tuple") (U := "int") (by decide) ⟨_, ho, rfl⟩ (fun s' => typeIs_int s' k t) noFill_tuple_mul F.fills_int_mul F.slot_int_rmul repeat_tuple F.slot_int_index.lookup
        (call_meets F.slot_int_rmul (typeIs_int s k t) F.entry_int_rmul (F.args_int_rmul_2 _ _) (int_rmul_tuple k t l its.toArray n dd sl)
          ⟨ho, rfl, ⟨_, ho, rfl⟩, call_meets F.slot_tuple_mul ⟨_, ho, rfl⟩ F.entry_tuple_mul (F.args_tuple_mul_2 _ _) m ⟨ho, ⟨.ref l, H, I, rfl, q⟩⟩⟩)
    rcases hk with rfl | e
    · exact go (tuple_mul1 l its.toArray n dd sl t)
    · subst e
      cases r
      exact go (tuple_mul0 l n k dd sl t (by rw [decide_eq_false (by omega), decide_eq_false (by omega)]; rfl))
  · have hk1 : k ≠ 1 := fun e => hk (.inl e)
    have hx1 : xs ≠ [] := fun e => hk (.inr e)
    exact op_repF pins s σ H _ _ v u Q I rx ry ⟨l, k, xs, rfl, rfl, hT, hx1, by omega, h2, hz, q1 hk1 hx1⟩
/-- a list times an int -/
def rRepL : R2 := fun x y H Q => ∃ l k xs, x = .ref l ∧ y = .int k ∧ Rd H l (.lst xs) ∧ -(2 ^ 63) ≤ k ∧ k < 2 ^ 63 ∧ xs.length * k.toNat ≤ sizeLine ∧
  ∀ p, H p = none → Q (.ref p) (upd H p (.lst (List.replicate k.toNat xs).flatten))
theorem op_repL : OpR X (binaryOp .Mult) rRepL := by
  intro pins s σ H x y v u Q I rx ry h
  obtain ⟨l, k, xs, rfl, rfl, hH, h1, h2, hz, q⟩ := h
  cases rx
  obtain ⟨t, rfl⟩ := ry
  obtain ⟨z, its, n, r, hl, e⟩ := lstR I hH
  have hlen : its.toArray.size * k.toNat ≤ sizeLine := by rw [List.size_toArray, ← hl]; exact hz
  have hcap : ¬ its.toArray.size * k.toNat > (2 ^ 63 - 1) / 8 := by
    have : (sizeLine : Nat) ≤ (2 ^ 63 - 1) / 8 := by decide
    omega
  have hfit : ¬ (!Builtin.List.listFitsIndex k) = true := by
    rw [fitsIndex_both h1 h2]
    exact Bool.false_ne_true
  have hlong : ¬ Builtin.List.listTooLong (its.toArray.size * k.toNat) = true := by
    rw [notLongL hlen]
    exact Bool.false_ne_true
  have hnew : List.foldl (fun x1 x2 => x1 ++ x2) #[] (List.replicate (if its.toArray.isEmpty = true then 0 else k.toNat) its.toArray) = (List.replicate k.toNat its).flatten.toArray := by
    have f0 : ∀ m : Nat, List.foldl (fun x1 x2 => x1 ++ x2) #[] (List.replicate m its.toArray) = (List.replicate m its).flatten.toArray := fun m => by
      have := foldl_rep its m []
      rw [List.nil_append] at this
      exact this
    rw [f0]
    cases its with
    | nil => simp
    | cons a r' => rw [if_neg (by simp)]
  refine wpAny_binaryOp_repeat_ref (T := "list") (U := "int") (by decide) ⟨_, e, rfl⟩ (fun s' => typeIs_int s' k t) noFill_list_mul F.fills_int_mul F.slot_int_rmul repeat_list F.slot_int_index.lookup
    (call_meets F.slot_int_rmul (typeIs_int s k t) F.entry_int_rmul (F.args_int_rmul_2 _ _) (int___rmul___int_list k t l its.toArray n)
      ⟨e, rfl, ⟨_, e, rfl⟩, call_meets F.slot_list_mul ⟨_, e, rfl⟩ F.entry_list_mul (F.args_list_mul_2 _ _) (AutoListH.list___mul___list_int_3 l its.toArray n k t hfit hcap hlong) ⟨e, ?_⟩⟩)
  rw [hnew]
  exact ⟨.ref _, _, I.lnew (t' := s.toks) (r.rep k.toNat) (by rw [PyProof.Rows.lm_len_rep_flat, Nat.mul_comm]; exact hz), rfl, q _ I.fresh⟩
def wMul (m : Bool) : D → D → MS → KV2 → Prop
  | .int i, .int j => fun S Q => CMul i j ∧ Q (.int (i * j)) S
  | .tup xs, .int k => fun S Q => (1 ≤ k ∧ k ≤ 1000 ∧ xs.length ≤ 1000) ∧ Q (.tup (List.replicate k.toNat xs).flatten) S
  | .lst xs, .int k => fun S Q => (-(2 ^ 63) ≤ k ∧ k < 2 ^ 63 ∧ xs.length * k.toNat ≤ sizeLine) ∧ newL m (List.replicate k.toNat xs).flatten S Q
  | _, _ => fun _ _ => False
def rMulA (K : PySem.W.Frag) : R2 := fun x y H Q => (rI CMul fun i j => .int (i * j)) x y H Q ∨ rRepU K x y H Q ∨ rRepL x y H Q
theorem op_mulA : OpR X (binaryOp .Mult) (rMulA X.K) := OpR.or op_mul (OpR.or op_repU op_repL)
theorem ro_mul (m : Bool) : RO2 K (rMulA K) (wMul m) := by
  intro F S H x y vx vy Q R fs rx ry q k
  cases x <;> cases y <;> first | exact q.elim | skip
  · rw [repT_int rx, repT_int ry]
    exact .inl ⟨_, _, rfl, rfl, q.1, k.int fs q.2⟩
  · rename_i xs j
    obtain ⟨a, vs, rfl, hx, rr, r1⟩ := rx
    rw [repT_int ry]
    obtain ⟨⟨q1, q2, q3⟩, q4⟩ := q
    refine .inr (.inl ⟨a, j, vs, rfl, rfl, hx, q1, q2, by rw [← rr.length]; exact q3, fun e => ?_, fun _ _ p o hp ho => newT_ok k fs (rr.rep _) q4 hp ho⟩)
    have e2 : (List.replicate j.toNat xs).flatten = xs := by
      rcases e with rfl | e
      · simp
      · rw [rr.nil_iff.mp e]
        simp
    rw [e2] at q4
    exact k.here fs r1 q4
  · rename_i xs j
    obtain ⟨a, vs, rfl, hx, rr⟩ := rx
    rw [repT_int ry]
    obtain ⟨⟨q1, q2, q3⟩, q4⟩ := q
    exact .inr (.inr ⟨a, j, vs, rfl, rfl, hx, q1, q2, by rw [← rr.length]; exact q3, fun p hp => newL_ok k fs (rr.rep _) q4 hp⟩)
end
end DL
/-! DL6: comparisons, subscripts, built-ins on data. -/
namespace DL
open PySem PySem.Spec PyProof.Rows L2
/-! ### == -/
mutual
def toPy : D → PyData
  | .non => .none
  | .bl b => .bool b
  | .int i => .int i
  | .str x => .str x
  | .tup ds => .tuple (toPys ds)
  | .wtup ds => .tuple (toPys ds)
  | .lst ds => .list (toPys ds)
  | .dic _ _ => .dict []
  | .dicT _ _ => .dict []
  | .obj _ _ _ => .dict []
  | .ref _ => .dict []
def toPys : List D → List PyData
  | [] => []
  | d :: ds => toPy d :: toPys ds
end
theorem toPys_map : ∀ ds, toPys ds = ds.map toPy
  | [] => rfl
  | d :: ds => by rw [toPys, toPys_map ds, List.map_cons]
section
variable {K : PySem.W.Frag} {X : Cx} {F H : Hp} {S : MS}
mutual
theorem dp_of (x : FS K F S H) : ∀ (d : D) (v : V), Rep K F d v → (toPy d).canLay0 = true → Dp K H v (toPy d)
  | .non, _, h, _ => by cases h; exact .non
  | .bl b, _, h, _ => by cases h; exact .bl b
  | .int i, _, h, _ => by cases h; exact .int i
  | .str s, _, h, _ => by cases h; exact .str s
  | .tup ds, _, h, l => by
    cases h with
    | tup hs ha => exact .tup (exf_t x.fr hs.sq) (dps_of x ds _ ha (by simpa [toPy, PyData.canLay0] using l))
  | .wtup ds, _, h, l => by
    cases h with
    | wtup hs ha => exact .tup (exf_t x.fr hs) (dps_of x ds _ ha (by simpa [toPy, PyData.canLay0] using l))
  | .lst ds, _, h, l => by
    cases h with
    | lst hs ha => exact .lst (.inl (exf_rd x.fr hs)) (dps_of x ds _ ha (by simpa [toPy, PyData.canLay0] using l))
  | .dic _ _, _, _, l => by simp [toPy, PyData.canLay0] at l
  | .dicT _ _, _, _, l => by simp [toPy, PyData.canLay0] at l
  | .obj _ _ _, _, _, l => by simp [toPy, PyData.canLay0] at l
  | .ref _, _, _, l => by simp [toPy, PyData.canLay0] at l
theorem dps_of (x : FS K F S H) : ∀ (ds : List D) (vs : List V), Reps K F ds vs → PyData.canLayAll0 (toPys ds) = true → DpAll K H vs (toPys ds)
  | [], _, h, _ => by cases h; exact .nil
  | d :: ds, _, h, l => by
    cases h with
    | cons h1 h2 =>
      have l' : ((toPy d).canLay0 && PyData.canLayAll0 (toPys ds)) = true := by simpa [toPys, PyData.canLayAll0] using l
      rw [Bool.and_eq_true] at l'
      exact .cons (dp_of x d _ h1 l'.1) (dps_of x ds _ h2 l'.2)
end
theorem dp_ofT (x : FS K F S H) {d : D} {v : V} (h : RepT K F H d v) (l : SeqAt.shaped (toPy d) = true) : Dp K H v (toPy d) := by
  have c := SeqAt.canLay_of_shaped l
  cases d with
  | lst ds =>
    obtain ⟨a, vs, rfl, h1, h2⟩ := h
    exact .lst (.inl h1) (dps_of x ds _ h2 (by simpa [toPy, PyData.canLay0] using c))
  | tup ds =>
    obtain ⟨a, vs, rfl, h1, h2, _⟩ := h
    exact .tup h1 (dps_of x ds _ h2 (by simpa [toPy, PyData.canLay0] using c))
  | wtup ds =>
    obtain ⟨a, vs, rfl, h1, h2⟩ := h
    exact .tup h1 (dps_of x ds _ h2 (by simpa [toPy, PyData.canLay0] using c))
  | dic ks ds => simp [toPy, PyData.canLay0] at c
  | dicT ks ds => simp [toPy, PyData.canLay0] at c
  | obj C ns ds => simp [toPy, PyData.canLay0] at c
  | ref a => simp [toPy, PyData.canLay0] at c
  | non => exact dp_of x _ _ h c
  | bl b => exact dp_of x _ _ h c
  | int i => exact dp_of x _ _ h c
  | str s => exact dp_of x _ _ h c
def eqD (x y : D) : Bool := PyData.eqv (toPy x) (toPy y)
def okD (x : D) : Bool := SeqAt.shaped (toPy x)
def wEq : D → D → MS → KV2 → Prop := fun x y S Q => okD x = true ∧ okD y = true ∧ Q (.bl (eqD x y)) S
def wNe : D → D → MS → KV2 → Prop := fun x y S Q => okD x = true ∧ okD y = true ∧ Q (.bl (!eqD x y)) S
theorem ro_eq : RO2 K (rEqD K) wEq := by
  rintro F S H x y vx vy Q R fs rx ry ⟨s1, s2, q⟩ k
  exact ⟨_, _, dp_ofT fs rx s1, dp_ofT fs ry s2, s1, s2, k.bl fs q⟩
theorem ro_ne : RO2 K (rNeD K) wNe := by
  rintro F S H x y vx vy Q R fs rx ry ⟨s1, s2, q⟩ k
  exact ⟨_, _, dp_ofT fs rx s1, dp_ofT fs ry s2, s1, s2, k.bl fs q⟩
/-! ### is -/
def isNon : D → Bool
  | .non => true
  | _ => false
theorem isNon_of {d : D} {v : V} (h : RepT K F H d v) : decide (v = .non) = isNon d := by
  cases d with
  | non => rw [repT_non h]; rfl
  | bl b => rw [repT_bl h]; rfl
  | int b => rw [repT_int h]; rfl
  | str b => rw [repT_str h]; rfl
  | tup ds => obtain ⟨a, vs, rfl, _⟩ := h; rfl
  | wtup ds => obtain ⟨a, vs, rfl, _⟩ := h; rfl
  | lst ds => obtain ⟨a, vs, rfl, _⟩ := h; rfl
  | dic ks ds => obtain ⟨a, vs, rfl, _⟩ := h; rfl
  | dicT ks ds => obtain ⟨a, od, vs, rfl, _⟩ := h; rfl
  | obj C ns ds => obtain ⟨a, dx, vs, rfl, _⟩ := h; rfl
  | ref a =>
    have h : Rep K F (.ref a) v := h
    cases h
    rfl
abbrev rIsN : R2 := fun x y H Q => y = .non ∧ Q (.bl (decide (x = .non))) H
abbrev rNotN : R2 := fun x y H Q => y = .non ∧ Q (.bl (!decide (x = .non))) H
def wIsN : D → D → MS → KV2 → Prop
  | x, .non => fun S Q => Q (.bl (isNon x)) S
  | _, _ => fun _ _ => False
def wNotN : D → D → MS → KV2 → Prop
  | x, .non => fun S Q => Q (.bl (!isNon x)) S
  | _, _ => fun _ _ => False
theorem ro_isN : RO2 K rIsN wIsN := by
  intro F S H x y vx vy Q R fs rx ry q k
  cases y <;> first | exact q.elim | skip
  rw [repT_non ry]
  refine ⟨rfl, ?_⟩
  rw [isNon_of rx]
  exact k.bl fs q
theorem ro_notN : RO2 K rNotN wNotN := by
  intro F S H x y vx vy Q R fs rx ry q k
  cases y <;> first | exact q.elim | skip
  rw [repT_non ry]
  refine ⟨rfl, ?_⟩
  rw [isNon_of rx]
  exact k.bl fs q
def wIsB : D → D → MS → KV2 → Prop
  | .bl a, .bl b => fun S Q => Q (.bl (decide (a = b))) S
  | _, _ => fun _ _ => False
def wNotB : D → D → MS → KV2 → Prop
  | .bl a, .bl b => fun S Q => Q (.bl (!decide (a = b))) S
  | _, _ => fun _ _ => False
theorem ro_isB : RO2 K rIsB wIsB := by
  intro F S H x y vx vy Q R fs rx ry q k
  cases x <;> cases y <;> first | exact q.elim | skip
  rw [repT_bl rx, repT_bl ry]
  exact ⟨_, _, rfl, rfl, k.bl fs q⟩
theorem ro_notB : RO2 K rNotB wNotB := by
  intro F S H x y vx vy Q R fs rx ry q k
  cases x <;> cases y <;> first | exact q.elim | skip
  rw [repT_bl rx, repT_bl ry]
  exact ⟨_, _, rfl, rfl, k.bl fs q⟩
/-! ### in -/
def flatD : D → Bool
  | .non => true
  | .bl _ => true
  | .int _ => true
  | .str _ => true
  | _ => false
theorem flat_of {d : D} {v : V} (h : Rep K F d v) (f : flatD d = true) : flatV v = true := by
  cases h <;> first | rfl | exact absurd f Bool.false_ne_true
theorem flat_eq {d e : D} {v u : V} (h : Rep K F d v) (g : Rep K F e u) (f : flatD d = true) (f2 : flatD e = true) : eqV v u = eqD d e := by
  cases h <;> cases g <;> first | exact absurd f Bool.false_ne_true | exact absurd f2 Bool.false_ne_true | simp [eqV, eqD, toPy, PyData.eqv]
theorem flat_all : ∀ {ds : List D} {vs : List V}, Reps K F ds vs → ds.all flatD = true → vs.all flatV = true
  | [], _, h, _ => by cases h; rfl
  | d :: ds, _, h, f => by
    cases h with
    | cons h1 h2 =>
      rw [List.all_cons, Bool.and_eq_true] at f
      rw [List.all_cons, flat_of h1 f.1, flat_all h2 f.2]
      rfl
theorem flat_in {d : D} {v : V} (h : Rep K F d v) (f : flatD d = true) : ∀ {ds : List D} {vs : List V}, Reps K F ds vs → ds.all flatD = true → inV v vs = ds.any fun y => eqD y d
  | [], _, g, _ => by cases g; rfl
  | e :: ds, _, g, f2 => by
    cases g with
    | cons h1 h2 =>
      rw [List.all_cons, Bool.and_eq_true] at f2
      unfold inV
      rw [List.any_cons, List.any_cons, flat_eq h1 h f2.1 f]
      have := flat_in h f h2 f2.2
      unfold inV at this
      rw [this]
def inD (x : D) (ds : List D) : Bool := ds.any fun y => eqD y x
def wIn (neg : Bool) : D → D → MS → KV2 → Prop
  | x, .lst ds => fun S Q => flatD x = true ∧ ds.all flatD = true ∧ Q (.bl (if neg then !inD x ds else inD x ds)) S
  | x, .tup ds => fun S Q => flatD x = true ∧ ds.all flatD = true ∧ Q (.bl (if neg then !inD x ds else inD x ds)) S
  | _, _ => fun _ _ => False
theorem repT_flat {d : D} {v : V} (h : RepT K F H d v) (f : flatD d = true) : Rep K F d v := by
  cases d <;> first | exact h | cases f
theorem ro_in (neg : Bool) : RO2 K (rIn K neg) (wIn neg) := by
  intro F S H x y vx vy Q R fs rx ry q k
  cases y <;> first | exact q.elim | skip
  · obtain ⟨f1, f2, q⟩ := q
    obtain ⟨a, vs, rfl, h1, h2, _⟩ := ry
    have r := repT_flat rx f1
    refine ⟨a, vs, rfl, .inr h1, flat_of r f1, flat_all h2 f2, ?_⟩
    rw [flat_in r f1 h2 f2]
    exact k.bl fs q
  · obtain ⟨f1, f2, q⟩ := q
    obtain ⟨a, vs, rfl, h1, h2⟩ := ry
    have r := repT_flat rx f1
    refine ⟨a, vs, rfl, .inl (.inl h1), flat_of r f1, flat_all h2 f2, ?_⟩
    rw [flat_in r f1 h2 f2]
    exact k.bl fs q
/-! ### subscripts -/
def wIx : D → D → MS → KV2 → Prop
  | .lst ds, .int i => fun S Q => ∃ d, atI ds i = some d ∧ Q d S
  | .tup ds, .int i => fun S Q => ∃ d, atI ds i = some d ∧ Q d S
  | _, _ => fun _ _ => False
theorem reps_at {ds : List D} {vs : List V} {i : Int} {d : D} (r : Reps K F ds vs) (h : atI ds i = some d) : ∃ v, atI vs i = some v ∧ Rep K F d v := by
  unfold atI at h ⊢
  rw [← r.length]
  cases e : ixN ds.length i with
  | none => rw [e] at h; cases h
  | some j =>
    rw [e] at h
    exact r.get h
theorem ro_ix : RO2 K (rIx K) wIx := by
  intro F S H x y vx vy Q R fs rx ry q k
  cases x <;> cases y <;> first | exact q.elim | skip
  · obtain ⟨d, hd, q⟩ := q
    obtain ⟨a, vs, rfl, h1, h2, _⟩ := rx
    obtain ⟨v, hv, rv⟩ := reps_at h2 hd
    rw [repT_int ry]
    exact .inr (.inl ⟨a, vs, _, v, rfl, rfl, h1, hv, k.here fs rv q⟩)
  · obtain ⟨d, hd, q⟩ := q
    obtain ⟨a, vs, rfl, h1, h2⟩ := rx
    obtain ⟨v, hv, rv⟩ := reps_at h2 hd
    rw [repT_int ry]
    exact .inl ⟨a, vs, _, v, rfl, rfl, .inl h1, hv, k.here fs rv q⟩
variable {L : Lk} {a b c : Expr} {ta tb tc : TE} {wa wb wc : WE} {pos p2 : Pos}
theorem de_ix (ha : DE X L a ta wa) (hb : DE X L b tb wb) (hs : PlainIx b := by exact fun _ _ => rfl) : DE X L (.Subscript a b pos) (tOp (rIx X.K) ta tb) (wOp wIx wa wb) := ⟨pe_ix ix_seq ha.pe hb.pe hs, re_op ro_ix ha.re hb.re⟩
/-- slices -/
abbrev WO := Rho → MS → (Option Int → Rho → MS → Prop) → Prop
def RO (K : PySem.W.Frag) (L : Lk) (t : TO) (w : WO) : Prop :=
  ∀ F ρ S σ H (Q : Option Int → Rho → MS → Prop) (R : Option Int → Hp → Prop), Mt K L F ρ S σ H → w ρ S Q → (∀ b H' ρ' S' F', ExF F F' → Mt K L F' ρ' S' σ H' → Q b ρ' S' → R b H') → t σ H R
structure DO (X : Cx) (L : Lk) (e : Option Expr) (t : TO) (w : WO) : Prop where
  po : PO X e t
  ro : RO X.K L t w
def wNoPart : WO := fun ρ S Q => Q none ρ S
def wPart (w : WE) : WO := fun ρ S Q => w ρ S fun x ρ1 S1 => ∃ i, x = .int i ∧ Q (some i) ρ1 S1
theorem do_none : DO X L none tNoPart wNoPart := ⟨po_none, fun F ρ S σ H Q R m q k => k none H ρ S F (ExF.refl F) m q⟩
theorem do_some (h : DE X L a ta wa) : DO X L (some a) (tPart ta) (wPart wa) := ⟨po_some h.pe, fun F ρ S σ H Q R m q k => h.re F ρ S σ H _ _ m q fun v H1 d ρ1 S1 F1 e1 m1 r1 ⟨i, e, q1⟩ => by
  subst e
  cases r1
  exact ⟨i, rfl, k _ H1 ρ1 S1 F1 e1 m1 q1⟩⟩
def cutD (xs : List D) (lo hi : Option Int) : List D := (xs.drop (HT.sIx xs.length 0 lo)).take (HT.sIx xs.length xs.length hi - HT.sIx xs.length 0 lo)
theorem reps_cut {ds : List D} {vs : List V} (r : Reps K F ds vs) (lo hi : Option Int) : Reps K F (cutD ds lo hi) (cutV vs lo hi) := by
  unfold cutD cutV
  rw [r.length]
  exact (r.drop _).take _
/-- the cut of a value -/
def wCut (m : Bool) (lo hi : Option Int) : D → MS → KV2 → Prop
  | .lst ds => fun S Q => newL m (cutD ds lo hi) S Q
  | .tup ds => fun S Q => Q (.tup (cutD ds lo hi)) S
  | _ => fun _ _ => False
def wSl (m : Bool) (wa : WE) (wl wh : WO) : WE := fun ρ S Q => wa ρ S fun x ρ1 S1 => wl ρ1 S1 fun lo ρ2 S2 => wh ρ2 S2 fun hi ρ3 S3 => wCut m lo hi (rd S3 x) S3 fun d S4 => Q d ρ3 S4
/-- a list's cut, a tuple's -/
def rSlA2 (K : PySem.W.Frag) : V → Option Int → Option Int → Hp → VK → Prop := fun x lo hi H Q => rSlL K x lo hi H Q ∨ rSlF K x lo hi H Q
theorem sl_all : SlR X (rSlA2 X.K) := SlR.or sl_list sl_tupF
theorem cut_whole {ds : List D} {lo hi : Option Int} (h : HT.sIx ds.length 0 lo = 0 ∧ HT.sIx ds.length ds.length hi = ds.length) : cutD ds lo hi = ds := by
  unfold cutD
  rw [h.1, h.2]
  simp
theorem re_sl (m : Bool) {tl th : TO} {wl wh : WO} (h : RE K L ta wa) (hl : RO K L tl wl) (hh : RO K L th wh) : RE K L (tSl (rSlA2 K) ta tl th) (wSl m wa wl wh) := by
  intro F ρ S σ H Q R mt q k
  refine h F ρ S σ H _ _ mt q fun x H1 dx ρ1 S1 F1 e1 m1 r1 q1 => ?_
  refine hl F1 ρ1 S1 σ H1 _ _ m1 q1 fun lo H2 ρ2 S2 F2 e2 m2 q2 => ?_
  refine hh F2 ρ2 S2 σ H2 _ _ m2 q2 fun hi H3 ρ3 S3 F3 e3 m3 q3 => ?_
  have rt := rd_ok m3.fs ((r1.up e2).up e3)
  have k2 : KO K F3 (fun d S4 => Q d ρ3 S4) R := fun v H' d S' F' e x r q => k v H' d ρ3 S' F' (((e1.trans e2).trans e3).trans e) (m3.step e x) r q
  generalize rd S3 dx = y at rt q3
  cases y <;> first | exact q3.elim | skip
  · rename_i ds
    obtain ⟨a, vs, rfl, h1, h2, h3⟩ := rt
    refine .inr ⟨a, vs, rfl, h1, fun hw => ?_, fun hw p o hp ho => newT_ok k2 m3.fs (reps_cut h2 lo hi) q3 hp ho⟩
    rw [← h2.length] at hw
    have q4 : Q (.tup (cutD ds lo hi)) ρ3 S3 := q3
    rw [cut_whole hw] at q4
    exact k2.here m3.fs h3 q4
  · obtain ⟨a, vs, rfl, h1, h2⟩ := rt
    exact .inl ⟨a, vs, rfl, .inl h1, fun p hp => newL_ok k2 m3.fs (reps_cut h2 lo hi) q3 hp⟩
theorem de_sl (m : Bool) {lo hi : Option Expr} {tl th : TO} {wl wh : WO} (h : DE X L a ta wa) (hl : DO X L lo tl wl) (hh : DO X L hi th wh) : DE X L (.Subscript a (.Slice lo hi none p2) pos) (tSl (rSlA2 X.K) ta tl th) (wSl m wa wl wh) :=
  ⟨pe_slice sl_all h.pe hl.po hh.po, re_sl m h.re hl.ro hh.ro⟩
/-! ### built-ins -/
variable {x : Str} {p : Pos} {e : Expr} {es : List Expr} {t : TA} {wr : WA} {id T : String} {r : List V → Hp → VK → Prop}
def wCB (wo : List D → MS → KV2 → Prop) (wr : WA) : WE := fun ρ S Q => wr ρ S fun ds ρ1 S1 => wo ds S1 fun d S2 => Q d ρ1 S2
theorem re_cb {wo : List D → MS → KV2 → Prop} (hr : ROc K r wo) (h : RA K L t wr) : RE K L (tCB r t) (wCB wo wr) := by
  intro F ρ S σ H Q R m q k
  refine h F ρ S σ H _ _ m q fun vs H1 ds ρ1 S1 F1 e1 m1 r1 q1 => ?_
  exact hr F1 S1 H1 ds vs _ _ m1.fs r1 q1 fun v H' d S' F' e x r q => k v H' d ρ1 S' F' (e1.trans e) (m1.step e x) r q
theorem de_cb {wo : List D → MS → KV2 → Prop} (hc : CallR X (.builtin id) r) (hr : ROc X.K r wo) (hg : Gl X x) (hm : X.mg x = none) (hv : bootBuiltins x = some (.builtin id)) (ha : DA X L (e :: es) t wr) (hn : x ≠ "__name__" := by decide) (hdb : (x == ("__debug__" : Str)) = false := by decide)
    (he : starEach (e :: es) X.env = (false, eval e X.env) :: starEach es X.env := by rfl) (hpl : (backTo pos (starEach es X.env)).any (·.1) = false := by rfl) : DE X L (.Call (.Name x p) (e :: es) [] pos) (tCB r t) (wCB wo wr) :=
  ⟨pe_callB hc hg hm hv ha.pa hn hdb he hpl, re_cb hr ha.ra⟩
theorem de_ct {wo : List D → MS → KV2 → Prop} (hc : CallR X (.type T) r) (hr : ROc X.K r wo) (hg : Gl X x) (hm : X.mg x = none) (hv : bootBuiltins x = some (.type T)) (ha : DA X L (e :: es) t wr) (hn : x ≠ "__name__" := by decide) (hdb : (x == ("__debug__" : Str)) = false := by decide)
    (he : starEach (e :: es) X.env = (false, eval e X.env) :: starEach es X.env := by rfl) (hpl : (backTo pos (starEach es X.env)).any (·.1) = false := by rfl) : DE X L (.Call (.Name x p) (e :: es) [] pos) (tCB r t) (wCB wo wr) :=
  ⟨pe_callTy hc hg hm hv ha.pa hn hdb he hpl, re_cb hr ha.ra⟩
/-- one argument, its data read through the store -/
def w1 (f : D → MS → KV2 → Prop) : List D → MS → KV2 → Prop := fun ds S Q => match ds with
  | [d] => f (rd S d) S Q
  | _ => False
def w2 (f : D → D → MS → KV2 → Prop) : List D → MS → KV2 → Prop := fun ds S Q => match ds with
  | [d, e] => f (rd S d) (rd S e) S Q
  | _ => False
theorem roc1 {f : D → MS → KV2 → Prop} (h : ∀ F S H x v Q R, FS K F S H → RepT K F H x v → f x S Q → KO K F Q R → r [v] H R) : ROc K r (w1 f) := by
  intro F S H xs vs Q R fs rs q k
  cases rs with
  | nil => exact q.elim
  | cons r1 r2 =>
    cases r2 with
    | nil => exact h F S H _ _ Q R fs (rd_ok fs r1) q k
    | cons _ _ => exact q.elim
theorem roc2 {f : D → D → MS → KV2 → Prop} (h : ∀ F S H x y v u Q R, FS K F S H → RepT K F H x v → RepT K F H y u → f x y S Q → KO K F Q R → r [v, u] H R) : ROc K r (w2 f) := by
  intro F S H xs vs Q R fs rs q k
  cases rs with
  | nil => exact q.elim
  | cons r1 r2 =>
    cases r2 with
    | nil => exact q.elim
    | cons r2 r3 =>
      cases r3 with
      | nil => exact h F S H _ _ _ _ Q R fs (rd_ok fs r1) (rd_ok fs r2) q k
      | cons _ _ => exact q.elim
def cLen : D → MS → KV2 → Prop
  | .lst ds => fun S Q => Q (.int ds.length) S
  | .tup ds => fun S Q => Q (.int ds.length) S
  | .str z => fun S Q => z.length ≤ sizeLine ∧ Q (.int z.length) S
  | _ => fun _ _ => False
abbrev rLen1 (K : PySem.W.Frag) : List V → Hp → VK → Prop := fun xs H Q => ∃ x n, xs = [x] ∧ LenV K x H n ∧ Q (.int n) H
theorem roc_len : ROc K (rLen1 K) (w1 cLen) := roc1 fun F S H x v Q R fs rx q k => by
  cases x <;> first | exact q.elim | skip
  · rw [repT_str rx]
    exact ⟨_, _, rfl, ⟨q.1, rfl⟩, k.int fs q.2⟩
  · obtain ⟨a, vs, rfl, h1, h2, _⟩ := rx
    refine ⟨_, _, rfl, .inr ⟨vs, h1, rfl⟩, ?_⟩
    rw [← h2.length]
    exact k.int fs q
  · obtain ⟨a, vs, rfl, h1, h2⟩ := rx
    refine ⟨_, _, rfl, .inl ⟨vs, .inl h1, rfl⟩, ?_⟩
    rw [← h2.length]
    exact k.int fs q
def cAbs : D → MS → KV2 → Prop
  | .int i => fun S Q => Q (.int (if i < 0 then -i else i)) S
  | _ => fun _ _ => False
abbrev rAbs1 : List V → Hp → VK → Prop := fun xs H Q => ∃ i, xs = [.int i] ∧ Q (.int (if i < 0 then -i else i)) H
theorem roc_abs : ROc K rAbs1 (w1 cAbs) := roc1 fun F S H x v Q R fs rx q k => by
  cases x <;> first | exact q.elim | skip
  rw [repT_int rx]
  exact ⟨_, rfl, k.int fs q⟩
def cInt : D → MS → KV2 → Prop
  | .int i => fun S Q => Q (.int i) S
  | .bl b => fun S Q => Q (.int (if b then 1 else 0)) S
  | _ => fun _ _ => False
abbrev rInt1 : List V → Hp → VK → Prop := fun xs H Q => (∃ i, xs = [.int i] ∧ Q (.int i) H) ∨ ∃ k, xs = [.bl k] ∧ Q (.int (if k then 1 else 0)) H
theorem roc_int : ROc K rInt1 (w1 cInt) := roc1 fun F S H x v Q R fs rx q k => by
  cases x <;> first | exact q.elim | skip
  · rw [repT_bl rx]
    exact .inr ⟨_, rfl, k.int fs q⟩
  · rw [repT_int rx]
    exact .inl ⟨_, rfl, k.int fs q⟩
abbrev rMin2 : List V → Hp → VK → Prop := fun xs H Q => ∃ i j, xs = [.int i, .int j] ∧ Q (.int (if j < i then j else i)) H
abbrev rMax2 : List V → Hp → VK → Prop := fun xs H Q => ∃ i j, xs = [.int i, .int j] ∧ Q (.int (if j > i then j else i)) H
def cII (g : Int → Int → Int) : D → D → MS → KV2 → Prop
  | .int i, .int j => fun S Q => Q (.int (g i j)) S
  | _, _ => fun _ _ => False
theorem roc_min2 : ROc K rMin2 (w2 (cII fun i j => if j < i then j else i)) := roc2 fun F S H x y v u Q R fs rx ry q k => by
  cases x <;> cases y <;> first | exact q.elim | skip
  rw [repT_int rx, repT_int ry]
  exact ⟨_, _, rfl, k.int fs q⟩
theorem roc_max2 : ROc K rMax2 (w2 (cII fun i j => if j > i then j else i)) := roc2 fun F S H x y v u Q R fs rx ry q k => by
  cases x <;> cases y <;> first | exact q.elim | skip
  rw [repT_int rx, repT_int ry]
  exact ⟨_, _, rfl, k.int fs q⟩
/-- all, any of a list of flags -/
def cAll : D → MS → KV2 → Prop
  | .lst ds => fun S Q => ∃ bs : List Bool, ds = bs.map D.bl ∧ Q (.bl (bs.all _root_.id)) S
  | _ => fun _ _ => False
def cAny : D → MS → KV2 → Prop
  | .lst ds => fun S Q => ∃ bs : List Bool, ds = bs.map D.bl ∧ Q (.bl (bs.any _root_.id)) S
  | _ => fun _ _ => False
theorem roc_all : ROc K (rAll K) (w1 cAll) := roc1 fun F S H x v Q R fs rx q k => by
  cases x <;> first | exact q.elim | skip
  obtain ⟨bs, e, q⟩ := q
  subst e
  obtain ⟨a, vs, rfl, h1, h2⟩ := rx
  have e := h2.bls
  subst e
  exact ⟨a, bs, rfl, .inl h1, k.bl fs q⟩
theorem roc_any : ROc K (rAny K) (w1 cAny) := roc1 fun F S H x v Q R fs rx q k => by
  cases x <;> first | exact q.elim | skip
  obtain ⟨bs, e, q⟩ := q
  subst e
  obtain ⟨a, vs, rfl, h1, h2⟩ := rx
  have e := h2.bls
  subst e
  exact ⟨a, bs, rfl, .inl h1, k.bl fs q⟩
/-- list(x), tuple(x) -/
def cList (m : Bool) : D → MS → KV2 → Prop
  | .lst ds => fun S Q => newL m ds S Q
  | .tup ds => fun S Q => newL m ds S Q
  | _ => fun _ _ => False
abbrev rListOf (K : PySem.W.Frag) : List V → Hp → VK → Prop := fun xs H Q => ∃ p ys, xs = [.ref p] ∧ (SqL K H p ys ∨ SqT K H p ys) ∧ ∀ l, H l = none → Q (.ref l) (upd H l (.lst ys))
theorem roc_list (m : Bool) : ROc K (rListOf K) (w1 (cList m)) := roc1 fun F S H x v Q R fs rx q k => by
  cases x <;> first | exact q.elim | skip
  · obtain ⟨a, vs, rfl, h1, h2, _⟩ := rx
    exact ⟨a, vs, rfl, .inr h1, fun l hl => newL_ok k fs h2 q hl⟩
  · obtain ⟨a, vs, rfl, h1, h2⟩ := rx
    exact ⟨a, vs, rfl, .inl (.inl h1), fun l hl => newL_ok k fs h2 q hl⟩
def cTuple : D → MS → KV2 → Prop
  | .lst ds => fun S Q => Q (.tup ds) S
  | .tup ds => fun S Q => Q (.tup ds) S
  | _ => fun _ _ => False
abbrev rTupleOf (K : PySem.W.Frag) : List V → Hp → VK → Prop := rTupF K
theorem roc_tuple : ROc K (rTupleOf K) (w1 cTuple) := roc1 fun F S H x v Q R fs rx q k => by
  cases x <;> first | exact q.elim | skip
  · obtain ⟨a, vs, rfl, h1, h2, h3⟩ := rx
    exact ⟨a, vs, rfl, .inr ⟨h1, k.here fs h3 q⟩⟩
  · obtain ⟨a, vs, rfl, h1, h2⟩ := rx
    exact ⟨a, vs, rfl, .inl ⟨.inl h1, fun l o hl ho => newT_ok k fs h2 q hl ho⟩⟩
/-- sorted of ints -/
def cSortedI (m : Bool) : D → MS → KV2 → Prop
  | .lst ds => fun S Q => ∃ ns : List Int, ds = ns.map D.int ∧ ∀ ns' : List Int, ns'.Perm ns → ns'.Pairwise (· ≤ ·) → newL m (ns'.map D.int) S Q
  | _ => fun _ _ => False
theorem roc_sortedI (m : Bool) : ROc K (rSortedI K) (w1 (cSortedI m)) := roc1 fun F S H x v Q R fs rx q k => by
  cases x <;> first | exact q.elim | skip
  obtain ⟨ns, e, q⟩ := q
  subst e
  obtain ⟨a, vs, rfl, h1, h2⟩ := rx
  have e := h2.ints
  subst e
  exact ⟨a, ns, rfl, .inl h1, fun ns' p hp hs hn => newL_ok k fs (.of_ints ns') (q ns' hp hs) hn⟩
end
end DL
/-! DL7: methods, stores, what is walked, isinstance. -/
namespace DL
open PySem PySem.Spec PyProof.Rows L2
section
variable {K : PySem.W.Frag} {X : Cx} {F H : Hp} {S : MS} {L : Lk} {a b c e o : Expr} {es : List Expr} {ta tb tc to : TE} {wa wb wc wo : WE} {t : TA} {wr : WA} {pos p2 p apos cpos : Pos}
/-! ### methods of lists -/
def TyD (T : String) : D → Prop
  | .lst _ => T = "list"
  | .str _ => T = "str"
  | .dic _ _ => T = "dict"
  | _ => False
theorem tyD_ok {T : String} {d : D} {v : V} (h : RepT K F H d v) (ty : TyD T d) : tyV K T v H := by
  cases d <;> first | exact False.elim ty | skip
  · rw [repT_str h]
    exact ty
  · obtain ⟨a, vs, rfl, h1, h2⟩ := h
    exact .inl ⟨ty, vs, .inl h1⟩
  · obtain ⟨a, kvs, rfl, h1, h2⟩ := h
    exact .inr (.inr (.inl ⟨ty, .inl ⟨kvs, h1⟩⟩))
/-- a method on values: the receiver as it is (an address, where it may change) -/
def RM (K : PySem.W.Frag) (r : V → List V → Hp → VK → Prop) (wm : D → List D → MS → KV2 → Prop) : Prop :=
  ∀ F S H x vx xs vs Q R, FS K F S H → Rep K F x vx → Reps K F xs vs → wm x xs S Q → KO K F Q R → r vx vs H R
def wBM (T : String) (wm : D → List D → MS → KV2 → Prop) (wo : WE) (wr : WA) : WE := fun ρ S Q => wo ρ S fun x ρ1 S1 => TyD T (rd S1 x) ∧ wr ρ1 S1 fun xs ρ2 S2 => wm x xs S2 fun d S3 => Q d ρ2 S3
theorem re_bm {T : String} {r : V → List V → Hp → VK → Prop} {wm : D → List D → MS → KV2 → Prop} (hr : RM K r wm) (ho : RE K L to wo) (ha : RA K L t wr) : RE K L (tBM K T r to t) (wBM T wm wo wr) := by
  intro F ρ S σ H Q R m q k
  refine ho F ρ S σ H _ _ m q fun x H1 dx ρ1 S1 F1 e1 m1 r1 ⟨ty, q1⟩ => ⟨tyD_ok (rd_ok m1.fs r1) ty, ?_⟩
  refine ha F1 ρ1 S1 σ H1 _ _ m1 q1 fun vs H2 ds ρ2 S2 F2 e2 m2 r2 q2 => ?_
  exact hr F2 S2 H2 _ _ _ _ _ _ m2.fs (r1.up e2) r2 q2 fun v H' d S' F' e x r q => k v H' d ρ2 S' F' ((e1.trans e2).trans e) (m2.step e x) r q
theorem re_bm0 {T : String} {r : V → List V → Hp → VK → Prop} {wm : D → List D → MS → KV2 → Prop} (hr : RM K r wm) (ho : RE K L to wo) : RE K L (tBM0 K T r to) (wBM T wm wo wNil) := by
  intro F ρ S σ H Q R m q k
  refine ho F ρ S σ H _ _ m q fun x H1 dx ρ1 S1 F1 e1 m1 r1 ⟨ty, q1⟩ => ⟨tyD_ok (rd_ok m1.fs r1) ty, ?_⟩
  exact hr F1 S1 H1 _ _ _ _ _ _ m1.fs r1 .nil q1 fun v H' d S' F' e x r q => k v H' d ρ1 S' F' (e1.trans e) (m1.step e x) r q
theorem de_bm {T id : String} {name : Str} {r : V → List V → Hp → VK → Prop} {wm : D → List D → MS → KV2 → Prop} (pa : PlainAttrs T) (slot : Slot T name id) (hty : typeOf (.builtin id) = pure (.type "method_descriptor")) (hm : MtR X id r) (hr : RM X.K r wm) (ho : DE X L o to wo) (ha : DA X L (e :: es) t wr)
    (hbase : attributeBase o name X.env (eval o X.env) = eval o X.env := by rfl)
    (hfew : ((backTo cpos (starEach (e :: es) X.env)).all (fun x => !x.1) && (backToKw cpos (keywordEach [] X.env)).all (fun x => x.1.isSome)
      && decide ((e :: es).length + ([] : List Keyword).length + (if ([] : List Keyword).isEmpty then 0 else 1) < 30)) = true := by rfl)
    (hline : (apos.endLine == cpos.line) = true := by rfl) (hs : starEach (e :: es) X.env = (false, eval e X.env) :: starEach es X.env := by rfl) (hplain : (backTo cpos (starEach es X.env)).any (·.1) = false := by rfl) :
    DE X L (.Call (.Attribute o name apos) (e :: es) [] cpos) (tBM X.K T r to t) (wBM T wm wo wr) := ⟨pe_bm pa slot hty hm ho.pe ha.pa hbase hfew hline hs hplain, re_bm hr ho.re ha.ra⟩
theorem de_bm0 {T id : String} {name : Str} {r : V → List V → Hp → VK → Prop} {wm : D → List D → MS → KV2 → Prop} (pa : PlainAttrs T) (slot : Slot T name id) (hty : typeOf (.builtin id) = pure (.type "method_descriptor")) (hm : MtR X id r) (hr : RM X.K r wm) (ho : DE X L o to wo)
    (hbase : attributeBase o name X.env (eval o X.env) = eval o X.env := by rfl) (hline : (apos.endLine == cpos.line) = true := by rfl) : DE X L (.Call (.Attribute o name apos) [] [] cpos) (tBM0 X.K T r to) (wBM T wm wo wNil) := ⟨pe_bm0 pa slot hty hm ho.pe hbase hline, re_bm0 hr ho.re⟩
def wAppend : D → List D → MS → KV2 → Prop := fun x xs S Q => ∃ a ds d, x = .ref a ∧ xs = [d] ∧ S a = some (.lst ds) ∧ ds.length < sizeLine ∧ Q .non (S.set a (.lst (ds ++ [d])))
theorem KO.put {F : Hp} {S : MS} {H : Hp} {Q : KV2} {R : VK} (k : KO K F Q R) (fs : FS K F S H) {a : Addr} {n m : MO} {ob : HO} {d : D} {v : V} (hs : S a = some n) (nm : isOpq m = false) (ok : MOk K F (S.set a m) (upd H a ob) a m) (r : Rep K F d v) (q : Q d (S.set a m)) : R v (upd H a ob) :=
  k v _ d _ F (ExF.refl F) (fs.write hs nm ok) r q
theorem rm_append : RM K rAppend wAppend := by
  rintro F S H x vx xs vs Q R fs rx rs ⟨a, ds, d, rfl, rfl, hs, hz, q⟩ k
  cases rx
  cases rs with
  | cons r1 r2 =>
    cases r2
    obtain ⟨_, us, hu, ru⟩ := fs.st a _ hs
    exact ⟨a, us, _, rfl, rfl, hu, by rw [← ru.length]; exact hz, k.put fs (m := .lst (ds ++ [d])) hs rfl ⟨_, upd_same, ru.append (.cons r1 .nil)⟩ .non q⟩
/-- extend by a list -/
def rExtR : V → List V → Hp → VK → Prop := fun x vs H Q => ∃ l b xs zs, x = .ref l ∧ vs = [.ref b] ∧ H l = some (.lst xs) ∧ Rd H b (.lst zs) ∧ xs.length + zs.length ≤ sizeLine ∧ Q .non (upd H l (.lst (xs ++ zs)))
theorem mt_extR : MtR X "list.extend" rExtR := by
  intro pins s σ H x vs v us Q I rx rv h
  obtain ⟨l, b, xs, zs, rfl, rfl, hH, hB, hz, q⟩ := h
  cases rx
  obtain ⟨u, rfl, ru⟩ := rv.one
  cases ru
  obtain ⟨z, its, n, r, hl, e⟩ := I.lstM hH
  obtain ⟨z2, its2, n2, r2, hl2, e2⟩ := lstR I hB
  have hsz : its.toArray.size + its2.toArray.size ≤ sizeLine := by rw [List.size_toArray, List.size_toArray]; omega
  have hlong : ¬ (!its.toArray.isEmpty && Builtin.List.listTooLong (its.toArray.size + its2.toArray.size)) = true := by
    rw [notLongL hsz, Bool.and_false]
    exact Bool.false_ne_true
  refine call_meets F.slot_list_extend ⟨_, e, rfl⟩ F.entry_list_extend (F.args_list_extend_2 _ _)
    (AutoSeq1.list_extend_list_list_0 l its.toArray n b its2.toArray n2 hlong (by rw [List.size_toArray]; omega) (by omega)) ⟨e, e2, ?_⟩
  refine ⟨.non, _, I.lset (its' := its ++ its2) hH e (by simp) (r.append r2) ?_, rfl, q⟩
  rw [List.length_append]
  omega
def wExtend : D → List D → MS → KV2 → Prop := fun x xs S Q => ∃ a ds y es, x = .ref a ∧ xs = [y] ∧ rd S y = .lst es ∧ S a = some (.lst ds) ∧ ds.length + es.length ≤ sizeLine ∧ Q .non (S.set a (.lst (ds ++ es)))
theorem rm_extend : RM K rExtR wExtend := by
  rintro F S H x vx xs vs Q R fs rx rs ⟨a, ds, y, es, rfl, rfl, hy, hs, hz, q⟩ k
  cases rx
  cases rs with
  | cons r1 r2 =>
    cases r2
    obtain ⟨_, us, hu, ru⟩ := fs.st a _ hs
    have r3 := rd_ok fs r1
    rw [hy] at r3
    obtain ⟨b, ws, rfl, hb, rb⟩ := r3
    exact ⟨a, b, us, ws, rfl, rfl, hu, hb, by rw [← ru.length, ← rb.length]; exact hz, k.put fs (m := .lst (ds ++ es)) hs rfl ⟨_, upd_same, ru.append rb⟩ .non q⟩
def wPop : D → List D → MS → KV2 → Prop := fun x xs S Q => ∃ a ds d, x = .ref a ∧ xs = [] ∧ S a = some (.lst ds) ∧ ds[ds.length - 1]? = some d ∧ Q d (S.set a (.lst ds.dropLast))
theorem rm_pop : RM K rPop wPop := by
  rintro F S H x vx xs vs Q R fs rx rs ⟨a, ds, d, rfl, rfl, hs, hd, q⟩ k
  cases rx
  cases rs
  obtain ⟨_, us, hu, ru⟩ := fs.st a _ hs
  obtain ⟨v, hv, rv⟩ := ru.get hd
  exact ⟨a, us, v, rfl, rfl, hu, by rw [← ru.length]; exact hv, k.put fs (m := .lst ds.dropLast) hs rfl ⟨_, upd_same, ru.dropLast⟩ rv q⟩
def wPopAt : D → List D → MS → KV2 → Prop := fun x xs S Q => ∃ a ds i j d, x = .ref a ∧ xs = [.int i] ∧ S a = some (.lst ds) ∧ i = ((j : Nat) : Int) ∧ ds[j]? = some d ∧ ds.length ≤ sizeLine ∧ Q d (S.set a (.lst (ds.eraseIdx j)))
theorem rm_popAt : RM K rPopAt wPopAt := by
  rintro F S H x vx xs vs Q R fs rx rs ⟨a, ds, i, j, d, rfl, rfl, hs, rfl, hd, hz, q⟩ k
  cases rx
  cases rs with
  | cons r1 r2 =>
    cases r2
    cases r1
    obtain ⟨_, us, hu, ru⟩ := fs.st a _ hs
    obtain ⟨v, hv, rv⟩ := ru.get hd
    have hj : j < ds.length := (List.getElem?_eq_some_iff.mp hd).1
    have hl : (sizeLine : Nat) = 16777216 := sizeLine_eq
    have hlen := ru.length
    exact ⟨a, us, _, j, v, rfl, rfl, hu, by omega, by omega, PySem.StrLaws.seqIndex_nonneg (by omega) (by omega), hv, k.put fs (m := .lst (ds.eraseIdx j)) hs rfl ⟨_, upd_same, ru.eraseIdx j⟩ rv q⟩
/-! ### xs[i] = v -/
def wSetL : D → D → D → MS → (MS → Prop) → Prop := fun x i v S Q => ∃ a ds k j, x = .ref a ∧ i = .int k ∧ S a = some (.lst ds) ∧ ixN ds.length k = some j ∧ Q (S.set a (.lst (ds.set j v)))
def wgSub (wo wi : WE) (ws : D → D → D → MS → (MS → Prop) → Prop) : WG := fun d ρ S Q => wo ρ S fun x ρ1 S1 => wi ρ1 S1 fun i ρ2 S2 => ws x i d S2 fun S3 => Q ρ2 S3
theorem rg_setL {ti : TE} {wi : WE} (ho : RE K L to wo) (hi : RE K L ti wi) : RG K L [] (gSub to ti rSetL) (wgSub wo wi wSetL) := by
  intro F ρ S σ H d v Q R m r q k
  refine ho F ρ S σ H _ _ m q fun x H1 dx ρ1 S1 F1 e1 m1 r1 q1 => ?_
  refine hi F1 ρ1 S1 σ H1 _ _ m1 q1 fun y H2 dy ρ2 S2 F2 e2 m2 r2 ⟨a, ds, kk, j, h1, h2, hs, hj, q2⟩ => ?_
  subst h1 h2
  cases r1
  cases r2
  obtain ⟨_, us, hu, ru⟩ := m2.fs.st a _ hs
  have fs3 := m2.fs.write (n := .lst (ds.set j d)) hs rfl ⟨us.set j v, upd_same, Reps.set ((r.up e1).up e2) j ru⟩
  exact ⟨a, us, kk, j, rfl, rfl, hu, by rw [← ru.length]; exact hj, k F2 ρ2 _ σ _ (e1.trans e2) (m2.step (ExF.refl F2) fs3) rfl q2⟩
theorem dg_setL {i : Expr} {ti : TE} {wi : WE} (ho : DE X L o to wo) (hi : DE X L i ti wi)
    (ha : ∀ v, assign (.Subscript o i pos) X.env v = (do
      let ov ← holding [v] (eval o X.env)
      let iv ← holding [v, ov] (eval i X.env)
      standAt pos
      holding [v, ov, iv] (setItem ov iv v)
      release [v, ov, iv] []) := by intro _; rfl) : DG X L [] (.Subscript o i pos) (gSub to ti rSetL) (wgSub wo wi wSetL) := ⟨pg_sub ho.pe hi.pe set_list ha, rg_setL ho.re hi.re⟩
/-! ### what is walked -/
/-- a list or a tuple, as it stands -/
def iSeq (K : PySem.W.Frag) (tl : TE) : TI := fun σ H R => tl σ H fun x H1 => ∃ a, x = .ref a ∧ (((∃ xs, SqL K H1 a xs) ∧ R (Itl K a) H1) ∨ ((∃ xs, SqT K H1 a xs) ∧ R (Itt K a) H1))
theorem pi_seq {tg l : Expr} {tl : TE} (hl : PE X l tl) : PI X tg l (iSeq X.K tl) := by
  refine ⟨fun pins s σ H R I h => ?_⟩
  refine thn (hl.run pins s σ H _ I h) fun v s1 ⟨x, H1, I1, r1, q1⟩ => ?_
  obtain ⟨a, e, q1⟩ := q1
  subst e
  cases r1
  rcases q1 with ⟨⟨xs, hq⟩, q⟩ | ⟨⟨xs, hq⟩, q⟩
  · obtain ⟨its, rv, p, hz⟩ := I1.list hq
    refine wpAny_pyIter_list p.isList ?_
    refine ⟨s1.heap.objs.size, [s1.heap.objs.size], _, _, H1, rfl, I1.kept (t' := s1.toks) fun b o e => Heap.get?_push_of_some _ e, turn_list a _, ⟨_, Heap.get?_push_size _ rfl, rfl, rfl⟩, fun b hb => ?_, q⟩
    have e : b = s1.heap.objs.size := by simpa using hb
    subst e
    exact I1.fpOk (Nat.le_refl _) (I1.hok.fresh (Nat.le_refl _))
  · obtain ⟨its, rv, p, hz⟩ := I1.tuple hq
    refine wpAny_pyIter_tuple (show s1.heap.IsTuple a its.toArray from p) ?_
    refine ⟨s1.heap.objs.size, [s1.heap.objs.size], _, _, H1, rfl, I1.kept (t' := s1.toks) fun b o e => Heap.get?_push_of_some _ e, turn_tuple a _, ⟨_, Heap.get?_push_size _ rfl, rfl, rfl⟩, fun b hb => ?_, q⟩
    have e : b = s1.heap.objs.size := by simpa using hb
    subst e
    exact I1.fpOk (Nat.le_refl _) (I1.hok.fresh (Nat.le_refl _))
/-- the items of what is walked, and what must stay as it is meanwhile -/
def itemsOf (S : MS) : D → Option (List D × (MS → Prop))
  | .lst ds => some (ds, noG)
  | .tup ds => some (ds, noG)
  | .ref a => match S a with
    | some (.lst ds) => some (ds, fun S' => S' a = some (.lst ds))
    | _ => none
  | _ => none
def wiSeq (wa : WE) : WI := fun ρ S Q => wa ρ S fun x ρ1 S1 => match itemsOf S1 x with
  | some (ds, g) => Q ds g ρ1 S1
  | none => False
theorem walkD_l {a : Addr} {vs : List V} {ds : List D} (h : Rd F a (.lst vs)) (r : Reps K F ds vs) : WalkD K F (Itl K a) ds noG where
  goes := fun i F' S' H' hi e x _ => ⟨vs, vs[i]'(by rw [← r.length]; exact hi), .inl (exf_rd x.fr (exf_rd e h)), by simp⟩
  stops := fun F' S' H' e x _ => ⟨vs, .inl (exf_rd x.fr (exf_rd e h)), by rw [r.length]; exact Nat.le_refl _⟩
  yields := fun i F' S' H' v H2 hi e x _ y => by
    obtain ⟨rfl, y⟩ := y
    obtain ⟨u, hu, ru⟩ := r.get (List.getElem?_eq_getElem hi)
    have := y vs (.inl (exf_rd x.fr (exf_rd e h)))
    rw [hu] at this
    cases this
    exact ⟨_, F', List.getElem?_eq_getElem hi, ExF.refl _, x, ru.up e⟩
theorem walkD_t {a : Addr} {vs : List V} {ds : List D} (h : SqT K F a vs) (r : Reps K F ds vs) : WalkD K F (Itt K a) ds noG where
  goes := fun i F' S' H' hi e x _ => ⟨vs, vs[i]'(by rw [← r.length]; exact hi), exf_t x.fr (exf_t e h), by simp⟩
  stops := fun F' S' H' e x _ => ⟨vs, exf_t x.fr (exf_t e h), by rw [r.length]; exact Nat.le_refl _⟩
  yields := fun i F' S' H' v H2 hi e x _ y => by
    obtain ⟨rfl, y⟩ := y
    obtain ⟨u, hu, ru⟩ := r.get (List.getElem?_eq_getElem hi)
    have := y vs (exf_t x.fr (exf_t e h))
    rw [hu] at this
    cases this
    exact ⟨_, F', List.getElem?_eq_getElem hi, ExF.refl _, x, ru.up e⟩
theorem walkD_m {a : Addr} {ds : List D} : WalkD K F (Itl K a) ds (fun S' => S' a = some (.lst ds)) where
  goes := fun i F' S' H' hi e x g => by
    obtain ⟨_, vs, hv, r⟩ := x.st a _ g
    exact ⟨vs, vs[i]'(by rw [← r.length]; exact hi), SqL.of hv, by simp⟩
  stops := fun F' S' H' e x g => by
    obtain ⟨_, vs, hv, r⟩ := x.st a _ g
    exact ⟨vs, SqL.of hv, by rw [r.length]; exact Nat.le_refl _⟩
  yields := fun i F' S' H' v H2 hi e x g y => by
    obtain ⟨rfl, y⟩ := y
    obtain ⟨_, vs, hv, r⟩ := x.st a _ g
    obtain ⟨u, hu, ru⟩ := r.get (List.getElem?_eq_getElem hi)
    have := y vs (SqL.of hv)
    rw [hu] at this
    cases this
    exact ⟨_, F', List.getElem?_eq_getElem hi, ExF.refl _, x, ru⟩
theorem ri_seq (h : RE K L ta wa) : RI K L (iSeq K ta) (wiSeq wa) := by
  intro F ρ S σ H Q R m q k
  refine h F ρ S σ H _ _ m q fun x H1 dx ρ1 S1 F1 e1 m1 r1 q1 => ?_
  cases r1 with
  | lst h1 h2 => exact ⟨_, rfl, .inl ⟨⟨_, .inl (exf_rd m1.fs.fr h1)⟩, k _ H1 _ _ ρ1 S1 F1 e1 m1 (walkD_l h1 h2) q1⟩⟩
  | tup h1 h2 => exact ⟨_, rfl, .inr ⟨⟨_, exf_t m1.fs.fr h1.sq⟩, k _ H1 _ _ ρ1 S1 F1 e1 m1 (walkD_t h1.sq h2) q1⟩⟩
  | wtup h1 h2 => exact q1.elim
  | ref a =>
    have q1 : match (match S1 a with
      | some (.lst ds) => some (ds, fun S' : MS => S' a = some (.lst ds))
      | _ => none) with
      | some (ds, g) => Q ds g ρ1 S1
      | none => False := q1
    cases e : S1 a with
    | none => rw [e] at q1; exact q1.elim
    | some m =>
      rw [e] at q1
      cases m <;> first | exact q1.elim | skip
      obtain ⟨_, vs, hv, r⟩ := m1.fs.st a _ e
      exact ⟨_, rfl, .inl ⟨⟨vs, SqL.of hv⟩, k _ H1 _ _ ρ1 S1 F1 e1 m1 walkD_m q1⟩⟩
  | non => exact q1.elim
  | bl b => exact q1.elim
  | int i => exact q1.elim
  | str s => exact q1.elim
  | dic _ _ _ => exact q1.elim
  | dicT _ _ _ _ _ => exact q1.elim
  | obj _ _ _ => exact q1.elim
theorem di_seq {tg : Expr} (h : DE X L a ta wa) : DI X L tg a (iSeq X.K ta) (wiSeq wa) := ⟨pi_seq h.pe, ri_seq h.re⟩
/-- a range -/
def rangeD (lo : Int) (n : Nat) : List D := (List.range n).map fun i => D.int (lo + (i : Nat))
theorem rangeD_length (lo : Int) (n : Nat) : (rangeD lo n).length = n := by simp [rangeD]
theorem rangeD_get {lo : Int} {n i : Nat} (h : i < n) : (rangeD lo n)[i]? = some (.int (lo + (i : Nat))) := by simp [rangeD, h]
theorem walkD_r {lo : Int} {n : Nat} : WalkD K F (Itr lo n) (rangeD lo n) noG where
  goes := fun i F' S' H' hi e x _ => by rw [rangeD_length] at hi; exact hi
  stops := fun F' S' H' e x _ => by rw [rangeD_length]; exact Nat.le_refl _
  yields := fun i F' S' H' v H2 hi e x _ y => by
    rw [rangeD_length] at hi
    obtain ⟨rfl, rfl⟩ := y
    exact ⟨_, F', rangeD_get hi, ExF.refl _, x, .int _⟩
def wiRng1 (wr : WA) : WI := fun ρ S Q => wr ρ S fun ds ρ1 S1 => ∃ j : Int, ds = [.int j] ∧ (-(2 ^ 62) ≤ j ∧ j < 2 ^ 62) ∧ Q (rangeD 0 j.toNat) noG ρ1 S1
def wiRng2 (wr : WA) : WI := fun ρ S Q => wr ρ S fun ds ρ1 S1 => ∃ i j : Int, ds = [.int i, .int j] ∧ (-(2 ^ 62) ≤ i ∧ i < 2 ^ 62 ∧ -(2 ^ 62) ≤ j ∧ j < 2 ^ 62) ∧ Q (rangeD i (j - i).toNat) noG ρ1 S1
theorem di_range1 {tg : Expr} (hg : Gl X "range") (hm : X.mg "range" = none) (ha : DA X L [a] t wr) (hs : starEach [a] X.env = [(false, eval a X.env)] := by rfl) : DI X L tg (.Call (.Name "range" p) [a] [] pos) (iRng1 t) (wiRng1 wr) :=
  ⟨pi_range1 hg hm ha.pa hs, fun F ρ S σ H Q R m q k => ha.ra F ρ S σ H _ _ m q fun vs H1 ds ρ1 S1 F1 e1 m1 r1 ⟨j, e, ⟨h1, h2⟩, q1⟩ => by
    subst e
    cases r1 with
    | cons r1 r2 =>
      cases r1
      cases r2
      exact ⟨j, rfl, h1, h2, k _ H1 _ _ ρ1 S1 F1 e1 m1 walkD_r q1⟩⟩
theorem di_range2 {tg : Expr} (hg : Gl X "range") (hm : X.mg "range" = none) (ha : DA X L [a, b] t wr) (hs : starEach [a, b] X.env = [(false, eval a X.env), (false, eval b X.env)] := by rfl) (hs2 : starEach [b] X.env = [(false, eval b X.env)] := by rfl) :
    DI X L tg (.Call (.Name "range" p) [a, b] [] pos) (iRng2 t) (wiRng2 wr) :=
  ⟨pi_range2 hg hm ha.pa hs hs2, fun F ρ S σ H Q R m q k => ha.ra F ρ S σ H _ _ m q fun vs H1 ds ρ1 S1 F1 e1 m1 r1 ⟨i, j, e, h1, q1⟩ => by
    subst e
    cases r1 with
    | cons r1 r2 =>
      cases r1
      cases r2 with
      | cons r2 r3 =>
        cases r2
        cases r3
        exact ⟨i, j, rfl, h1, k _ H1 _ _ ρ1 S1 F1 e1 m1 walkD_r q1⟩⟩
/-- list(range(..)), tuple(range(..)) -/
theorem rgV_D (i j : Int) : Reps K F (rangeD i (j - i).toNat) (rgV i j) := by
  unfold rangeD rgV
  induction (List.range (j - i).toNat) with
  | nil => exact .nil
  | cons x r ih => exact .cons (.int _) ih
def wLstRg1 (m : Bool) (wa : WE) : WE := fun ρ S Q => wa ρ S fun x ρ1 S1 => ∃ n, x = .int n ∧ RgOk 0 n ∧ newL m (rangeD 0 (n - 0).toNat) S1 fun d S2 => Q d ρ1 S2
theorem de_listRg1 (m : Bool) {p3 pos3 : Pos} (hc : X.calm = true) (hg : Gl X "list") (hm : X.mg "list" = none) (hg2 : Gl X "range") (hm2 : X.mg "range" = none) (h : DE X L a ta wa) (na : starEach [a] X.env = (false, eval a X.env) :: starEach [] X.env := by rfl)
    (na2 : starEach [.Call (.Name "range" p) [a] [] pos] X.env = (false, eval (.Call (.Name "range" p) [a] [] pos) X.env) :: starEach [] X.env := by rfl) :
    DE X L (.Call (.Name "list" p3) [.Call (.Name "range" p) [a] [] pos] [] pos3) (tLstRg (tRg1 ta)) (wLstRg1 m wa) :=
  ⟨pe_listRg hc hg hm (prg_1 hg2 hm2 h.pe na) na2, fun F ρ S σ H Q R mt q k => h.re F ρ S σ H _ _ mt q fun v H1 d ρ1 S1 F1 e1 m1 r1 ⟨n, e, ok, q1⟩ => by
    subst e
    cases r1
    exact ⟨n, rfl, ok, fun p hp => newL_ok (Q := fun d S2 => Q d ρ1 S2) (fun v H' d S' F' e x r q => k v H' d ρ1 S' F' (e1.trans e) (m1.step e x) r q) m1.fs (rgV_D 0 n) q1 hp⟩⟩
/-- y = [..] -/
theorem ds_setLc (mu : Bool) (i : Nat) {y : Str} {py : Pos} {elt tg iter : Expr} {ifs : List Expr} {scope : Scope} {spos : Pos} {ti : TI} {wi : WI} {g : TG} {wg : WG} {tt : TT} {wt : WT} {te : TE} {we : WE} (own : List (Str × Nat)) (hc : X.calm = true) (hN : X.N.Nodup) (hi : DI X L tg iter ti wi) (ok : BlkOk X.N X.env.scope scope own)
    (hg : ∀ (s : Shared) (H : Hp) (C : Addr) (cl : List (Str × Addr)) (fp : List Addr), DG (X.blk s H scope (compEnvC scope cl C X.env) fp) L (own.map (·.2)) tg g wg) (ht : ∀ (s : Shared) (H : Hp) (C : Addr) (cl : List (Str × Addr)) (fp : List Addr), DTs (X.blk s H scope (compEnvC scope cl C X.env) fp) L ifs tt wt)
    (he : ∀ (s : Shared) (H : Hp) (C : Addr) (cl : List (Str × Addr)) (fp : List Addr), DE (X.blk s H scope (compEnvC scope cl C X.env) fp) L elt te we) (hs : ∀ x, foldedSetIterable iter X.env x = pure x := by intro _; rfl)
    (hy : X.N[i]? = some y := by rfl) (hyl : X.env.scope.names.lookup y = some .local := by rfl) (hsw : swapsWith (.ListComp elt [⟨tg, iter, ifs, 0⟩] scope pos) (some (.Name y py)) spos.line X.env = pure true := by exact sw_true rfl rfl rfl (by decide +kernel)) :
    DS X L (.Assign [.Name y py] (.ListComp elt [⟨tg, iter, ifs, 0⟩] scope pos) spos) (tAsg (tLc ti g tt te (own.map (·.2))) (gName i)) (wAsg (wLc mu (own.map (·.2)) wi wg wt we) (wgName i)) :=
  ⟨ps_setLc hc hN hy hyl hsw hi.pi ok (fun s H C cl fp => (hg s H C cl fp).pg) (fun s H C cl fp => (ht s H C cl fp).pts) (fun s H C cl fp => (he s H C cl fp).pe) hs,
    rs_asg (vs := [i]) (re_lc hi.ri (hg X.s_0 X.H_0 0 [] []).rg (ht X.s_0 X.H_0 0 [] []).rt (he X.s_0 X.H_0 0 [] []).re) (rg_name (List.mem_singleton.mpr rfl))⟩
end
end DL
/-! DL8: isinstance, enumerate, zip, sorted tuples, reversed slices. -/
namespace DL
open PySem PySem.Spec PyProof.Rows L2
/-! ### isinstance, built-in classes -/
inductive BT where
  | int | bool | str | tuple | list | dict
def BT.nm : BT → String
  | .int => "int" | .bool => "bool" | .str => "str" | .tuple => "tuple" | .list => "list" | .dict => "dict"
def isK : BT → D → Bool
  | .int, .int _ => true
  | .int, .bl _ => true
  | .bool, .bl _ => true
  | .str, .str _ => true
  | .tuple, .tup _ => true
  | .list, .lst _ => true
  | .dict, .dic _ _ => true
  | _, _ => false
/-- no instance, no address -/
def plD : D → Bool
  | .obj _ _ _ => false
  | .ref _ => false
  | .wtup _ => false
  | .dicT _ _ => false
  | _ => true
def tyNm : D → String
  | .non => "NoneType" | .bl _ => "bool" | .int _ => "int" | .str _ => "str" | .tup _ => "tuple" | .lst _ => "list" | .dic _ _ => "dict" | _ => "object"
section
variable {K : PySem.W.Frag} {X : Cx} {F H : Hp} {S : MS} {L : Lk} {a b c e o : Expr} {es : List Expr} {ta tb tc to : TE} {wa wb wc wo : WE} {t : TA} {wr : WA} {pos p2 p apos cpos : Pos}
theorem tyX_of {d : D} {v : V} (h : RepT K F H d v) (pl : plD d = true) : TyX K H v (.type (tyNm d)) := by
  cases d <;> first | exact absurd pl Bool.false_ne_true | skip
  · rw [repT_non h]; exact .base .non
  · rw [repT_bl h]; exact .base (.bl _)
  · rw [repT_int h]; exact .base (.int _)
  · rw [repT_str h]; exact .base (.str _)
  · obtain ⟨a, vs, rfl, h1, _⟩ := h
    rcases h1 with (h1 | ⟨o, h1⟩) | ⟨o, its, n, hk, hc, _⟩
    · exact .base (.tup h1)
    · exact .fTuple h1
    · exact .kTuple hk hc
  · obtain ⟨a, vs, rfl, h1, _⟩ := h
    rcases h1 with h1 | ⟨o, h1⟩
    · exact .base (.lst h1)
    · exact .base (.frz h1)
  · obtain ⟨a, kvs, rfl, h1, _⟩ := h
    exact .base (.dK h1)
def sk : D → D
  | .bl _ => .bl true
  | .int _ => .int 0
  | .str _ => .str ⟨#[]⟩
  | .tup _ => .tup []
  | .lst _ => .lst []
  | .dic _ _ => .dic [] []
  | _ => .non
theorem kit_known (T : BT) (d : D) (pl : plD d = true) : PySem.W.kitOne K (.type (tyNm d)) (.type T.nm) = some (isK T d) := by
  have h0 : kitB "NoneType" T.nm = some (isK T .non) := by cases T <;> decide +kernel
  have h1 : kitB "bool" T.nm = some (isK T (.bl true)) := by cases T <;> decide +kernel
  have h2 : kitB "int" T.nm = some (isK T (.int 0)) := by cases T <;> decide +kernel
  have h3 : kitB "str" T.nm = some (isK T (.str ⟨#[]⟩)) := by cases T <;> decide +kernel
  have h4 : kitB "tuple" T.nm = some (isK T (.tup [])) := by cases T <;> decide +kernel
  have h5 : kitB "list" T.nm = some (isK T (.lst [])) := by cases T <;> decide +kernel
  have h6 : kitB "dict" T.nm = some (isK T (.dic [] [])) := by cases T <;> decide +kernel
  have e2 : isK T d = isK T (sk d) := by cases d <;> cases T <;> rfl
  rw [e2]
  refine kit_ty ?_
  cases d <;> first | exact absurd pl Bool.false_ne_true | exact h0 | exact h1 | exact h2 | exact h3 | exact h4 | exact h5 | exact h6
def wIsi (T : BT) (wa : WE) : WE := fun ρ S Q => wa ρ S fun x ρ1 S1 => plD (rd S1 x) = true ∧ Q (.bl (isK T (rd S1 x))) ρ1 S1
theorem re_isi (T : BT) (h : RE K L ta wa) : RE K L (tCB (rIsi K) (tCons ta (tCons (tC (.ty T.nm)) tNil))) (wIsi T wa) := by
  intro F ρ S σ H Q R m q k
  refine h F ρ S σ H _ _ m q fun x H1 dx ρ1 S1 F1 e1 m1 r1 ⟨pl, q1⟩ => ?_
  have rt := rd_ok m1.fs r1
  exact ⟨x, .ty T.nm, .type (tyNm (rd S1 dx)), .type T.nm, _, rfl, .ty _, tyX_of rt pl, kit_known T _ pl, k _ H1 _ ρ1 S1 F1 e1 m1 (.bl _) q1⟩
theorem bty (T : BT) : bootBuiltins (Str.ofString T.nm) = some (.type T.nm) := by cases T <;> decide +kernel
theorem de_isi (T : BT) {x : Str} {q1 : Pos} (hg : Gl X "isinstance") (hm : X.mg "isinstance" = none) (h : DE X L a ta wa) (hx : x = Str.ofString T.nm := by rfl) (hgx : Gl X x := by rfl) (hmx : X.mg x = none := by assumption) (hn : x ≠ "__name__" := by decide) (hdb : (x == ("__debug__" : Str)) = false := by decide)
    (he : starEach [a, .Name x q1] X.env = (false, eval a X.env) :: starEach [.Name x q1] X.env := by rfl) (he2 : starEach [.Name x q1] X.env = (false, eval (.Name x q1) X.env) :: starEach [] X.env := by rfl) (hpl : (backTo pos (starEach [.Name x q1] X.env)).any (·.1) = false := by rfl) :
    DE X L (.Call (.Name "isinstance" p) [a, .Name x q1] [] pos) (tCB (rIsi X.K) (tCons ta (tCons (tC (.ty T.nm)) tNil))) (wIsi T wa) := by
  subst hx
  exact ⟨pe_callB call_isi hg hm (by decide +kernel) (pa_cons h.pe (pa_cons (pe_bltn hgx hmx (bty T) rfl hn hdb) pa_nil he2) he) (by decide) (by decide) he hpl, re_isi T h.re⟩
def wIsi2 (T T2 : BT) (wa : WE) : WE := fun ρ S Q => wa ρ S fun x ρ1 S1 => plD (rd S1 x) = true ∧ Q (.bl (isK T (rd S1 x) || isK T2 (rd S1 x))) ρ1 S1
theorem re_isi2 (T T2 : BT) (h : RE K L ta wa) : RE K L (tCB (rIsiT K) (tCons ta (tCons (tTup (tCons (tC (.ty T.nm)) (tCons (tC (.ty T2.nm)) tNil))) tNil))) (wIsi2 T T2 wa) := by
  intro F ρ S σ H Q R m q k
  refine h F ρ S σ H _ _ m q fun x H1 dx ρ1 S1 F1 e1 m1 r1 ⟨pl, q1⟩ => ?_
  refine ⟨by show 2 ≤ sizeLine; decide, fun p hp => ?_⟩
  have fs2 := m1.fs.drop (o := .tup [.ty T.nm, .ty T2.nm]) hp
  have rt := rd_ok fs2 r1
  refine ⟨x, p, [.ty T.nm, .ty T2.nm], .type (tyNm (rd S1 dx)), [.type T.nm, .type T2.nm], _, rfl, upd_same, .cons (.ty _) (.cons (.ty _) .nil), tyX_of rt pl, ?_, k _ _ _ ρ1 S1 F1 e1 (m1.step (ExF.refl F1) fs2) (.bl _) q1⟩
  refine kitAny_cons (kit_known T _ pl) (fun e => ?_) fun e => by rw [e, Bool.true_or]
  refine kitAny_cons (kit_known T2 _ pl) (fun e2 => ?_) fun e2 => by rw [e2, Bool.or_true]
  rw [e, e2]
  exact kitAny_nil
theorem de_isi2 (T T2 : BT) {x y : Str} {q1 q2 q3 : Pos} {kt : Nat} (hg : Gl X "isinstance") (hm : X.mg "isinstance" = none) (h : DE X L a ta wa) (hx : x = Str.ofString T.nm := by rfl) (hy : y = Str.ofString T2.nm := by rfl) (hgx : Gl X x := by rfl) (hgy : Gl X y := by rfl) (hmx : X.mg x = none := by assumption) (hmy : X.mg y = none := by assumption)
    (hn : x ≠ "__name__" := by decide) (hdb : (x == ("__debug__" : Str)) = false := by decide) (hn2 : y ≠ "__name__" := by decide) (hdb2 : (y == ("__debug__" : Str)) = false := by decide)
    (he : starEach [a, .Tuple [.Name x q1, .Name y q2] kt q3] X.env = (false, eval a X.env) :: starEach [.Tuple [.Name x q1, .Name y q2] kt q3] X.env := by rfl)
    (he2 : starEach [.Tuple [.Name x q1, .Name y q2] kt q3] X.env = (false, eval (.Tuple [.Name x q1, .Name y q2] kt q3) X.env) :: starEach [] X.env := by rfl)
    (he3 : starEach [.Name x q1, .Name y q2] X.env = (false, eval (.Name x q1) X.env) :: starEach [.Name y q2] X.env := by rfl) (he4 : starEach [.Name y q2] X.env = (false, eval (.Name y q2) X.env) :: starEach [] X.env := by rfl)
    (hpl : (backTo pos (starEach [.Tuple [.Name x q1, .Name y q2] kt q3] X.env)).any (·.1) = false := by rfl) :
    DE X L (.Call (.Name "isinstance" p) [a, .Tuple [.Name x q1, .Name y q2] kt q3] [] pos) (tCB (rIsiT X.K) (tCons ta (tCons (tTup (tCons (tC (.ty T.nm)) (tCons (tC (.ty T2.nm)) tNil))) tNil))) (wIsi2 T T2 wa) := by
  subst hx hy
  exact ⟨pe_callB call_isiT hg hm (by decide +kernel) (pa_cons h.pe (pa_cons (pe_tup (pa_cons (pe_bltn hgx hmx (bty T) rfl hn hdb) (pa_cons (pe_bltn hgy hmy (bty T2) rfl hn2 hdb2) pa_nil he4) he3)) pa_nil he2) he) (by decide) (by decide) he hpl, re_isi2 T T2 h.re⟩
/-! ### enumerate -/
theorem meets_enumerate_newT (l : Addr) (items : Array Value) :
    Meets (Builtin.«enumerate.__new__» ⟨[.type "enumerate", .ref l], []⟩) (fun _ R s => s.heap.IsTuple l items ∧
      R (.ok (.ret (.ref (s.heap.push { cls := .type "tuple_iterator", data := .fields #[.ref l, .int 0 0] }).objs.size)))
        { s with heap := (s.heap.push { cls := .type "tuple_iterator", data := .fields #[.ref l, .int 0 0] }).push { cls := .type "enumerate", data := .fields #[.none, .bool false, .ref s.heap.objs.size, rawInt 0, .none, .none] } }) :=
  .of_wp fun prog w A R s h => by
    obtain ⟨hp, g, d, tk, os⟩ := s; obtain ⟨hl, h⟩ := h
    have hsub := sub_enumerate
    have q1 : ∀ {A' : Around} {E : Value → Shared → Prop} {Q : Value → Shared → Prop}, Q (.ref hp.objs.size) ⟨hp.push { cls := .type "tuple_iterator", data := .fields #[.ref l, .int 0 0] }, g, d, tk, os⟩ → wpAny (model prog w) A' (pyIter (.ref l)) Q E ⟨hp, g, d, tk, os⟩ :=
      fun q => wpAny_pyIter_tuple hl q
    wp_walk using q1
    refine wpAny_stack_any fun st => wpAny_pure ?_
    split
    · rename_i c _ _ _ _ _
      cases (c == Value.type "enumerate")
      · wp_walk using q1
        exact ⟨_, rfl, h⟩
      · wp_walk using q1
        exact ⟨_, rfl, h⟩
    · wp_walk using q1
      exact ⟨_, rfl, h⟩
theorem call_enumerate_tup {prog : Program} {w : World} {A : Around} {E : Value → Shared → Prop} {s : Shared} {l : Addr} {items : Array Value} {Q : Value → Shared → Prop} (hL : s.heap.IsTuple l items)
    (h : ∀ h', IsEnum h' (s.heap.objs.size + 1) s.heap.objs.size 0 .none → h'.IsTupleIter s.heap.objs.size l 0 → h'.objs.size = s.heap.objs.size + 2 →
      (∀ b o, s.heap.get? b = some o → h'.get? b = some o) → Q (.ref (s.heap.objs.size + 1)) { s with heap := h' }) :
    wpAny (model prog w) A (call (.type "enumerate") [.ref l]) Q E s := by
  refine callType_new F.called_enumerate (by decide) (F.typeCall_enumerate_1 _) (F.newCall_enumerate_1 _) (fun obj => F.args_object_init_2 obj _) F.entry_enumerate_new
    (meets_enumerate_newT l items) ⟨hL, ?_⟩
  have hz : (s.heap.push { cls := .type "tuple_iterator", data := .fields #[.ref l, .int 0 0] }).objs.size = s.heap.objs.size + 1 := Heap.size_push ..
  show _ ∧ _
  rw [hz]
  have he : IsEnum ((s.heap.push { cls := .type "tuple_iterator", data := .fields #[.ref l, .int 0 0] }).push
      { cls := .type "enumerate", data := .fields #[.none, .bool false, .ref s.heap.objs.size, rawInt 0, .none, .none] }) (s.heap.objs.size + 1) s.heap.objs.size 0 .none := by
    have := Heap.get?_push_size (s.heap.push { cls := .type "tuple_iterator", data := .fields #[.ref l, .int 0 0] })
      (o := { cls := .type "enumerate", data := .fields #[.none, .bool false, .ref s.heap.objs.size, rawInt 0, .none, .none] }) rfl
    rw [hz] at this; exact this
  refine ⟨⟨_, he, rfl⟩, h _ he ⟨_, Heap.get?_push_of_some _ (Heap.get?_push_size _ rfl), rfl, rfl⟩ (by rw [Heap.size_push, hz]) fun b o x => Heap.get?_push_of_some _ (Heap.get?_push_of_some _ x)⟩
/-- the tuple at a, each item in a new pair -/
def IteT (K : PySem.W.Frag) (a : Addr) : It :=
  ⟨fun i H => ∃ (xs : List V) (x : V), SqT K H a xs ∧ xs[i]? = some x, fun i H v H' => ∃ T x, v = .ref T ∧ H T = none ∧ H' = upd H T (.tup [.int (i : Nat), x]) ∧ ∀ xs, SqT K H a xs → xs[i]? = some x, fun i H => ∃ xs : List V, SqT K H a xs ∧ xs.length = i⟩
theorem turn_enumT {P : Program} {w : World} {K : PySem.W.Frag} {elts : List Expr} {kk : Nat} {tpos : Pos} (a e it : Addr) (hae : a ≠ it) (hae2 : e ≠ a) :
    Turn P w K (.Tuple elts kk tpos) (IteT K a) [e, it] e (fun i h => (∃ old, IsEnum h e it ((i : Nat) : Int) old) ∧ h.IsTupleIter it a i ∧ e ≠ it) where
  mem := by simp
  obj := fun i h st b hb => by
    obtain ⟨⟨old, he⟩, ⟨o, ho, hc, hd⟩, _⟩ := st
    have e' : b = e ∨ b = it := by simpa using hb
    rcases e' with z | z
    · rw [z]; exact ⟨_, he, fun v q => nomatch q⟩
    · rw [z]; exact ⟨o, ho, fun v q => by rw [hd] at q; cases q⟩
  keep := fun i h h' st k => let ⟨⟨old, he⟩, hi, hne⟩ := st; ⟨⟨old, k e (by simp) _ he⟩, hi.at fun o q => k it (by simp) o q, hne⟩
  item := by
    intro X hP hw hK hc i pins s σ H E I hf st hg
    subst hP hw hK
    obtain ⟨⟨old, he⟩, hit, hne⟩ := st
    obtain ⟨xs, x, hq, hx⟩ := hg
    obtain ⟨its, rv, p, hz⟩ := I.tuple hq
    obtain ⟨u, hu, ru⟩ := rv.get hx
    have hel : e < s.heap.objs.size := Heap.lt_size he
    have hil : it < s.heap.objs.size := by obtain ⟨_, q, _⟩ := hit; exact Heap.lt_size q
    have D := Draws.tuple (prog := X.prog) (w := X.w) (A := X.A.in1) (I.ok.hd hc) it a hae its.toArray
    have hi : i < its.toArray.size := by
      have := (List.getElem?_eq_some_iff.mp hx).1
      have := rv.length
      simp
      omega
    refine wpAny_pyNext_enum_itemD D he ⟨hit, p⟩ hi hne (by simp [hne, hae2]) fun y h' tk hy ho hst hT hsz hk => ?_
    have ey : y = u := by
      have h1 : its.toArray[i]? = some y := hy
      have h2 : its.toArray[i]? = some u := by simpa using hu
      rw [h1] at h2
      exact Option.some.inj h2
    subst ey
    refine ⟨_, rfl, wpAny_letOwnedTupleGo_enum (s := { s with heap := h', toks := tk + 1 }) ho fun h'' he' sb => ?_⟩
    have hT2 : h''.get? s.heap.objs.size = some { cls := .type "tuple", data := .seq #[.int i tk, y] } := (sb.2 _ (Nat.ne_of_gt hel)).trans hT
    have new : ObjOk X.prog X.w (upd H s.heap.objs.size (.tup [.int (i : Nat), x])) h'' s.heap.objs.size (.tup [.int (i : Nat), x]) :=
      ⟨by show 2 ≤ sizeLine; decide, [.int i tk, y], .cons ⟨_, rfl⟩ (.cons ru .nil), ⟨_, hT2, rfl, _, rfl⟩⟩
    have I1 : Inv X pins σ (upd H s.heap.objs.size (.tup [.int (i : Nat), x])) { s with heap := h'', toks := tk + 1 } :=
      I.turnedNew (ch := [e, it]) (fun b ob hb q => (sb.2 b (fun z => hb (by simp [z]))).trans (hk b ob (fun z => hb (by simp [z])) (fun z => hb (by simp [z])) q)) hf (Nat.le_refl _) new
    refine ⟨.ref s.heap.objs.size, _, I1, rfl, ⟨_, x, rfl, I.hok.fresh (Nat.le_refl _), rfl, fun ys hy => by rw [I.tuple_inj hy hq]; exact hx⟩, ⟨⟨y, ?_⟩, hst.1.at fun o q => (sb.2 it (Ne.symm hne)).trans q, hne⟩, fun b hb => ?_⟩
    · have e1 : ((i + 1 : Nat) : Int) = (i : Int) + 1 := by omega
      rw [e1]; exact he'
    · have hb' : b < s.heap.objs.size := by
        have e' : b = e ∨ b = it := by simpa using hb
        rcases e' with z | z
        · rw [z]; exact hel
        · rw [z]; exact hil
      rw [upd_ne (Nat.ne_of_lt hb')]
      exact (hf b hb).1
  done := by
    intro X hP hw hK hc i pins s σ H E I hf st hg
    subst hP hw hK
    obtain ⟨⟨old, he⟩, hit, hne⟩ := st
    obtain ⟨xs, hq, hx⟩ := hg
    obtain ⟨its, rv, p, hz⟩ := I.tuple hq
    obtain ⟨f0, f1, f2, f3, f4, f5⟩ := hf it (by simp)
    have hl := rv.length
    have D := Draws.tuple (prog := X.prog) (w := X.w) (A := X.A.in1) (I.ok.hd hc) it a hae its.toArray
    have en : i = its.toArray.size := by
      simp
      omega
    subst en
    exact wpAny_pyNext_enum_endD D he ⟨hit, p⟩ fun h' eb => ⟨rfl, I.turned (t' := s.toks) (fun b o hb q => eb b o hb q) f0 f1 f3 f4 f5⟩
  self := fun A i s Q E st h => let ⟨⟨_, he⟩, _⟩ := st; wpAny_pyIter_enum he h
/-- enumerate of a list or a tuple -/
def iEnumA (K : PySem.W.Frag) (ta : TA) : TI := fun σ H R => ta σ H fun vs H1 => ∃ a, vs = [.ref a] ∧ (((∃ xs, SqL K H1 a xs) ∧ R (Ite K a) H1) ∨ ((∃ xs, SqT K H1 a xs) ∧ R (IteT K a) H1))
theorem pi_enumA {tpos : Pos} {elts : List Expr} {kk : Nat} (hg : Gl X "enumerate") (hm : X.mg "enumerate" = none) (ha : PA X [e] t) (hs : starEach [e] X.env = [(false, eval e X.env)] := by rfl) :
    PI X (.Tuple elts kk tpos) (.Call (.Name "enumerate" p) [e] [] pos) (iEnumA X.K t) := by
  refine ⟨fun pins s σ H R I h => ?_⟩
  refine Call_ (ld_blt I hg hm boot_enumerate (PyProof.Rows.callWith_type1 (thn (ha.run pos pins s σ H _ I h) fun us s1 ⟨vs, H1, I1, r1, q1⟩ => ?_) hs rfl))
  obtain ⟨a, ex, q1⟩ := q1
  subst ex
  cases r1 with
  | cons r rr =>
    cases rr
    cases r
    rcases q1 with ⟨⟨xs, hq⟩, q⟩ | ⟨⟨xs, hq⟩, q⟩
    · obtain ⟨its, rv, p', hz⟩ := I1.list hq
      refine call_enumerate_list p'.isList fun h' he hit hsz hk => wpAny_pyIter_enum he ?_
      have I2 : Inv X pins σ H1 { s1 with heap := h' } := I1.kept (t' := s1.toks) hk
      refine ⟨s1.heap.objs.size + 1, [s1.heap.objs.size + 1, s1.heap.objs.size], _, _, H1, rfl, I2, turn_enum a (s1.heap.objs.size + 1) s1.heap.objs.size, ⟨⟨.none, he⟩, hit, Nat.succ_ne_self _⟩, fun b hb => ?_, q⟩
      have e' : b = s1.heap.objs.size + 1 ∨ b = s1.heap.objs.size := by simpa using hb
      have hle : s1.heap.objs.size ≤ b := by
        rcases e' with z | z
        · rw [z]; exact Nat.le_add_right _ _
        · rw [z]; exact Nat.le_refl _
      exact I1.fpOk hle (I1.hok.fresh hle)
    · obtain ⟨its, rv, p', hz⟩ := I1.tuple hq
      have hlt : a < s1.heap.objs.size := p'.lt
      refine call_enumerate_tup (show s1.heap.IsTuple a its.toArray from p') fun h' he hit hsz hk => wpAny_pyIter_enum he ?_
      have I2 : Inv X pins σ H1 { s1 with heap := h' } := I1.kept (t' := s1.toks) hk
      refine ⟨s1.heap.objs.size + 1, [s1.heap.objs.size + 1, s1.heap.objs.size], _, _, H1, rfl, I2, turn_enumT a (s1.heap.objs.size + 1) s1.heap.objs.size (Nat.ne_of_lt hlt) (Nat.ne_of_gt (Nat.lt_succ_of_lt hlt)), ⟨⟨.none, he⟩, hit, Nat.succ_ne_self _⟩, fun b hb => ?_, q⟩
      have e' : b = s1.heap.objs.size + 1 ∨ b = s1.heap.objs.size := by simpa using hb
      have hle : s1.heap.objs.size ≤ b := by
        rcases e' with z | z
        · rw [z]; exact Nat.le_add_right _ _
        · rw [z]; exact Nat.le_refl _
      exact I1.fpOk hle (I1.hok.fresh hle)
def enumD (ds : List D) : List D := (List.range ds.length).map fun i => D.wtup [.int (i : Nat), ds.getD i .non]
theorem enumD_length (ds : List D) : (enumD ds).length = ds.length := by simp [enumD]
theorem enumD_get {ds : List D} {i : Nat} {d : D} (h : ds[i]? = some d) : (enumD ds)[i]? = some (.wtup [.int (i : Nat), d]) := by
  have hi := (List.getElem?_eq_some_iff.mp h).1
  simp [enumD, hi, (List.getElem?_eq_some_iff.mp h).2]
theorem pairF {F1 H1 H2 : Hp} {S1 : MS} (x : FS K F1 S1 H1) {T : Addr} {u v : V} {d1 d2 : D} (hT : H1 T = none) (e2 : H2 = upd H1 T (.tup [u, v])) (r1 : Rep K F1 d1 u) (r2 : Rep K F1 d2 v) : ∃ F2, ExF F1 F2 ∧ FS K F2 S1 H2 ∧ Rep K F2 (.wtup [d1, d2]) (.ref T) := by
  subst e2
  have fT := (x.notS hT).2
  have ex : ExF F1 (upd F1 T (.tup [u, v])) := ExF.new fT
  exact ⟨_, ex, x.grow hT, .wtup (SqT.of upd_same) (.cons (r1.up ex) (.cons (r2.up ex) .nil))⟩
theorem walkD_el {a : Addr} {vs : List V} {ds : List D} (h : Rd F a (.lst vs)) (r : Reps K F ds vs) : WalkD K F (Ite K a) (enumD ds) noG where
  goes := fun i F' S' H' hi e x _ => by
    rw [enumD_length] at hi
    exact ⟨vs, vs[i]'(by rw [← r.length]; exact hi), .inl (exf_rd x.fr (exf_rd e h)), by simp⟩
  stops := fun F' S' H' e x _ => ⟨vs, .inl (exf_rd x.fr (exf_rd e h)), by rw [enumD_length, r.length]; exact Nat.le_refl _⟩
  yields := fun i F' S' H' v H2 hi e x _ y => by
    rw [enumD_length] at hi
    obtain ⟨T, u, rfl, hT, eH, y⟩ := y
    obtain ⟨u', hu, ru⟩ := r.get (List.getElem?_eq_getElem hi)
    have := y vs (.inl (exf_rd x.fr (exf_rd e h)))
    rw [hu] at this
    cases this
    obtain ⟨F2, h1, h2, h3⟩ := pairF x hT eH (.int (i : Nat)) (ru.up e)
    exact ⟨_, F2, enumD_get (List.getElem?_eq_getElem hi), h1, h2, h3⟩
theorem walkD_et {a : Addr} {vs : List V} {ds : List D} (h : SqT K F a vs) (r : Reps K F ds vs) : WalkD K F (IteT K a) (enumD ds) noG where
  goes := fun i F' S' H' hi e x _ => by
    rw [enumD_length] at hi
    exact ⟨vs, vs[i]'(by rw [← r.length]; exact hi), exf_t x.fr (exf_t e h), by simp⟩
  stops := fun F' S' H' e x _ => ⟨vs, exf_t x.fr (exf_t e h), by rw [enumD_length, r.length]⟩
  yields := fun i F' S' H' v H2 hi e x _ y => by
    rw [enumD_length] at hi
    obtain ⟨T, u, rfl, hT, eH, y⟩ := y
    obtain ⟨u', hu, ru⟩ := r.get (List.getElem?_eq_getElem hi)
    have := y vs (exf_t x.fr (exf_t e h))
    rw [hu] at this
    cases this
    obtain ⟨F2, h1, h2, h3⟩ := pairF x hT eH (.int (i : Nat)) (ru.up e)
    exact ⟨_, F2, enumD_get (List.getElem?_eq_getElem hi), h1, h2, h3⟩
theorem walkD_em {a : Addr} {ds : List D} : WalkD K F (Ite K a) (enumD ds) (fun S' => S' a = some (.lst ds)) where
  goes := fun i F' S' H' hi e x g => by
    rw [enumD_length] at hi
    obtain ⟨_, vs, hv, r⟩ := x.st a _ g
    exact ⟨vs, vs[i]'(by rw [← r.length]; exact hi), SqL.of hv, by simp⟩
  stops := fun F' S' H' e x g => by
    obtain ⟨_, vs, hv, r⟩ := x.st a _ g
    exact ⟨vs, SqL.of hv, by rw [enumD_length, r.length]; exact Nat.le_refl _⟩
  yields := fun i F' S' H' v H2 hi e x g y => by
    rw [enumD_length] at hi
    obtain ⟨T, u, rfl, hT, eH, y⟩ := y
    obtain ⟨_, vs, hv, r⟩ := x.st a _ g
    obtain ⟨u', hu, ru⟩ := r.get (List.getElem?_eq_getElem hi)
    have := y vs (SqL.of hv)
    rw [hu] at this
    cases this
    obtain ⟨F2, h1, h2, h3⟩ := pairF x hT eH (.int (i : Nat)) ru
    exact ⟨_, F2, enumD_get (List.getElem?_eq_getElem hi), h1, h2, h3⟩
def wiEnum (wr : WA) : WI := fun ρ S Q => wr ρ S fun xs ρ1 S1 => match xs with
  | [x] => (match itemsOf S1 x with
    | some (ds, g) => Q (enumD ds) g ρ1 S1
    | none => False)
  | _ => False
theorem ri_enum (h : RA K L t wr) : RI K L (iEnumA K t) (wiEnum wr) := by
  intro F ρ S σ H Q R m q k
  refine h F ρ S σ H _ _ m q fun vs H1 xs ρ1 S1 F1 e1 m1 rs q1 => ?_
  cases rs with
  | nil => exact q1.elim
  | cons r1 r2 =>
    cases r2 with
    | cons _ _ => exact q1.elim
    | nil =>
      cases r1 with
      | lst h1 h2 => exact ⟨_, rfl, .inl ⟨⟨_, .inl (exf_rd m1.fs.fr h1)⟩, k _ H1 _ _ ρ1 S1 F1 e1 m1 (walkD_el h1 h2) q1⟩⟩
      | tup h1 h2 => exact ⟨_, rfl, .inr ⟨⟨_, exf_t m1.fs.fr h1.sq⟩, k _ H1 _ _ ρ1 S1 F1 e1 m1 (walkD_et h1.sq h2) q1⟩⟩
      | wtup h1 h2 => exact q1.elim
      | ref a =>
        have q1 : match (match S1 a with
          | some (.lst ds) => some (ds, fun S' : MS => S' a = some (.lst ds))
          | _ => none) with
          | some (ds, g) => Q (enumD ds) g ρ1 S1
          | none => False := q1
        cases e : S1 a with
        | none => rw [e] at q1; exact q1.elim
        | some m =>
          rw [e] at q1
          cases m <;> first | exact q1.elim | skip
          obtain ⟨_, vs, hv, r⟩ := m1.fs.st a _ e
          exact ⟨_, rfl, .inl ⟨⟨vs, SqL.of hv⟩, k _ H1 _ _ ρ1 S1 F1 e1 m1 walkD_em q1⟩⟩
      | non => exact q1.elim
      | bl b => exact q1.elim
      | int i => exact q1.elim
      | str s => exact q1.elim
      | dic _ _ _ => exact q1.elim
      | dicT _ _ _ _ _ => exact q1.elim
      | obj _ _ _ => exact q1.elim
theorem di_enum {tpos : Pos} {elts : List Expr} {kk : Nat} (hg : Gl X "enumerate") (hm : X.mg "enumerate" = none) (ha : DA X L [e] t wr) (hs : starEach [e] X.env = [(false, eval e X.env)] := by rfl) :
    DI X L (.Tuple elts kk tpos) (.Call (.Name "enumerate" p) [e] [] pos) (iEnumA X.K t) (wiEnum wr) := ⟨pi_enumA hg hm ha.pa hs, ri_enum ha.ra⟩
/-- zip of two lists, of two tuples -/
def zipD (xs ys : List D) : List D := (List.range (min xs.length ys.length)).map fun i => D.wtup [xs.getD i .non, ys.getD i .non]
theorem zipD_length (xs ys : List D) : (zipD xs ys).length = min xs.length ys.length := by simp [zipD]
theorem zipD_get {xs ys : List D} {i : Nat} {d e : D} (h : xs[i]? = some d) (h2 : ys[i]? = some e) : (zipD xs ys)[i]? = some (.wtup [d, e]) := by
  have hi := (List.getElem?_eq_some_iff.mp h).1
  have hj := (List.getElem?_eq_some_iff.mp h2).1
  have : i < min xs.length ys.length := by omega
  simp [zipD, this, List.getD, h, h2]
theorem walkD_zl {a b : Addr} {vs us : List V} {ds es : List D} (h : Rd F a (.lst vs)) (r : Reps K F ds vs) (h' : Rd F b (.lst us)) (r' : Reps K F es us) : WalkD K F (Itz K a b) (zipD ds es) noG where
  goes := fun i F' S' H' hi e x _ => by
    rw [zipD_length] at hi
    have l1 := r.length
    have l2 := r'.length
    exact ⟨vs, us, vs[i]'(by omega), us[i]'(by omega), .inl (exf_rd x.fr (exf_rd e h)), .inl (exf_rd x.fr (exf_rd e h')), by simp, by simp⟩
  stops := fun F' S' H' e x _ => ⟨vs, us, .inl (exf_rd x.fr (exf_rd e h)), .inl (exf_rd x.fr (exf_rd e h')), by
    rw [zipD_length, r.length, r'.length]
    omega⟩
  yields := fun i F' S' H' v H2 hi e x _ y => by
    rw [zipD_length] at hi
    obtain ⟨T, u, w, rfl, hT, eH, y1, y2⟩ := y
    have hi1 : i < ds.length := by omega
    have hi2 : i < es.length := by omega
    obtain ⟨u', hu, ru⟩ := r.get (List.getElem?_eq_getElem hi1)
    obtain ⟨w', hw, rw'⟩ := r'.get (List.getElem?_eq_getElem hi2)
    have z1 := y1 vs (.inl (exf_rd x.fr (exf_rd e h)))
    rw [hu] at z1
    cases z1
    have z2 := y2 us (.inl (exf_rd x.fr (exf_rd e h')))
    rw [hw] at z2
    cases z2
    obtain ⟨F2, h1, h2, h3⟩ := pairF x hT eH (ru.up e) (rw'.up e)
    exact ⟨_, F2, zipD_get (List.getElem?_eq_getElem hi1) (List.getElem?_eq_getElem hi2), h1, h2, h3⟩
theorem walkD_zt {a b : Addr} {vs us : List V} {ds es : List D} (h : SqT K F a vs) (r : Reps K F ds vs) (h' : SqT K F b us) (r' : Reps K F es us) : WalkD K F (RZ.ItzT K a b) (zipD ds es) noG where
  goes := fun i F' S' H' hi e x _ => by
    rw [zipD_length] at hi
    have l1 := r.length
    have l2 := r'.length
    exact ⟨vs, us, vs[i]'(by omega), us[i]'(by omega), exf_t x.fr (exf_t e h), exf_t x.fr (exf_t e h'), by simp, by simp⟩
  stops := fun F' S' H' e x _ => ⟨vs, us, exf_t x.fr (exf_t e h), exf_t x.fr (exf_t e h'), by
    rw [zipD_length, r.length, r'.length]
    omega⟩
  yields := fun i F' S' H' v H2 hi e x _ y => by
    rw [zipD_length] at hi
    obtain ⟨T, u, w, rfl, hT, eH, y1, y2⟩ := y
    have hi1 : i < ds.length := by omega
    have hi2 : i < es.length := by omega
    obtain ⟨u', hu, ru⟩ := r.get (List.getElem?_eq_getElem hi1)
    obtain ⟨w', hw, rw'⟩ := r'.get (List.getElem?_eq_getElem hi2)
    have z1 := y1 vs (exf_t x.fr (exf_t e h))
    rw [hu] at z1
    cases z1
    have z2 := y2 us (exf_t x.fr (exf_t e h'))
    rw [hw] at z2
    cases z2
    obtain ⟨F2, h1, h2, h3⟩ := pairF x hT eH (ru.up e) (rw'.up e)
    exact ⟨_, F2, zipD_get (List.getElem?_eq_getElem hi1) (List.getElem?_eq_getElem hi2), h1, h2, h3⟩
def wiZip (wr : WA) : WI := fun ρ S Q => wr ρ S fun xs ρ1 S1 => match xs with
  | [.lst ds, .lst es] => Q (zipD ds es) noG ρ1 S1
  | [.tup ds, .tup es] => Q (zipD ds es) noG ρ1 S1
  | _ => False
theorem ri_zip (h : RA K L t wr) : RI K L (RZ.iZipA K t) (wiZip wr) := by
  intro F ρ S σ H Q R m q k
  refine h F ρ S σ H _ _ m q fun vs H1 xs ρ1 S1 F1 e1 m1 rs q1 => ?_
  cases rs with
  | nil => exact q1.elim
  | cons r1 r2 =>
    cases r2 with
    | nil => cases r1 <;> exact q1.elim
    | cons r2 r3 =>
      cases r3 with
      | cons _ _ => cases r1 <;> cases r2 <;> exact q1.elim
      | nil =>
        cases r1 <;> cases r2 <;> first | exact q1.elim | skip
        · rename_i h1 h2 _ _ _ h3 h4
          exact ⟨_, _, _, _, rfl, .inr ⟨exf_t m1.fs.fr h1.sq, exf_t m1.fs.fr h3.sq, k _ H1 _ _ ρ1 S1 F1 e1 m1 (walkD_zt h1.sq h2 h3.sq h4) q1⟩⟩
        · rename_i h1 h2 _ _ _ h3 h4
          exact ⟨_, _, _, _, rfl, .inl ⟨.inl (exf_rd m1.fs.fr h1), .inl (exf_rd m1.fs.fr h3), k _ H1 _ _ ρ1 S1 F1 e1 m1 (walkD_zl h1 h2 h3 h4) q1⟩⟩
theorem di_zip {e2 : Expr} {tpos : Pos} {elts : List Expr} {kk : Nat} (hg : Gl X "zip") (hm : X.mg "zip" = none) (ha : DA X L [e, e2] t wr)
    (hs : starEach [e, e2] X.env = (false, eval e X.env) :: starEach [e2] X.env := by rfl) (hpl : (backTo pos (starEach [e2] X.env)).any (·.1) = false := by rfl) :
    DI X L (.Tuple elts kk tpos) (.Call (.Name "zip" p) [e, e2] [] pos) (RZ.iZipA X.K t) (wiZip wr) := ⟨RZ.pi_zipA hg hm ha.pa hs hpl, ri_zip ha.ra⟩
end
end DL
/-! DL9: reading a reading; loops and comprehensions by rules; things known by what stays true of them. -/
namespace DL
open PySem PySem.Spec PyProof.Rows L2
theorem ex_bl_iff {b : Bool} {p : Bool → Prop} : (∃ c, D.bl b = .bl c ∧ p c) ↔ p b := ⟨fun ⟨c, e, h⟩ => by cases e; exact h, fun h => ⟨b, rfl, h⟩⟩
theorem ex_int_iff {b : Int} {p : Int → Prop} : (∃ c, D.int b = .int c ∧ p c) ↔ p b := ⟨fun ⟨c, e, h⟩ => by cases e; exact h, fun h => ⟨b, rfl, h⟩⟩
theorem ex_int1_iff {b : Int} {p : Int → Prop} : (∃ c, [D.int b] = [.int c] ∧ p c) ↔ p b := ⟨fun ⟨c, e, h⟩ => by cases e; exact h, fun h => ⟨b, rfl, h⟩⟩
theorem ex_int2_iff {a b : Int} {p : Int → Int → Prop} : (∃ c d, [D.int a, D.int b] = [.int c, .int d] ∧ p c d) ↔ p a b := ⟨fun ⟨c, d, e, h⟩ => by cases e; exact h, fun h => ⟨a, b, rfl, h⟩⟩
theorem ex_pair_iff {a b : D} {p : D → D → Prop} : (∃ x y, [a, b] = [x, y] ∧ p x y) ↔ p a b := ⟨fun ⟨x, y, e, h⟩ => by cases e; exact h, fun h => ⟨a, b, rfl, h⟩⟩
theorem ex_tup_iff {b : List D} {p : List D → Prop} : (∃ c, D.tup b = .tup c ∧ p c) ↔ p b := ⟨fun ⟨c, e, h⟩ => by cases e; exact h, fun h => ⟨b, rfl, h⟩⟩
theorem rd_non {S : MS} : rd S .non = .non := rfl
theorem rd_bl {S : MS} {b : Bool} : rd S (.bl b) = .bl b := rfl
theorem rd_int {S : MS} {b : Int} : rd S (.int b) = .int b := rfl
theorem rd_str {S : MS} {b : Str} : rd S (.str b) = .str b := rfl
theorem rd_tup {S : MS} {b : List D} : rd S (.tup b) = .tup b := rfl
theorem rd_lst {S : MS} {b : List D} : rd S (.lst b) = .lst b := rfl
theorem rd_dic {S : MS} {k : List Key} {b : List D} : rd S (.dic k b) = .dic k b := rfl
theorem rd_obj {S : MS} {C : Str} {k : List Str} {b : List D} : rd S (.obj C k b) = .obj C k b := rfl
theorem rd_ref {S : MS} {a : Addr} {ds : List D} (h : S a = some (.lst ds)) : rd S (.ref a) = .lst ds := by
  show rdM a (S a) = _
  rw [h]
  rfl
/-- what is no instance and no address is as it is -/
theorem rd_pl {S : MS} {d : D} (h : plD d = true) : rd S d = d := by cases d <;> first | rfl | exact absurd h Bool.false_ne_true
theorem outK.mk {Q : KV2} {d : D} {S S' : MS} (s : Sub S S') (q : Q d S) : outK Q d S' := ⟨S, s, q⟩
theorem outK.same {Q : KV2} {d : D} {S : MS} (q : Q d S) : outK Q d S := ⟨S, Sub.refl S, q⟩
theorem newL_f {xs : List D} {S : MS} {Q : KV2} : newL false xs S Q ↔ Q (.lst xs) S := by simp [newL]
theorem newL_t {xs : List D} {S : MS} {Q : KV2} : newL true xs S Q ↔ ∀ a, S a = none → Q (.ref a) (S.set a (.lst xs)) := by simp [newL]
mutual
def pu : D → Bool
  | .obj _ _ _ => false
  | .ref _ => false
  | .wtup _ => false
  | .dicT _ _ => false
  | .str s => (PyData.str s).canLay0
  | .tup ds => pus ds
  | .lst ds => pus ds
  | .dic _ ds => pus ds
  | _ => true
def pus : List D → Bool
  | [] => true
  | d :: ds => pu d && pus ds
end
theorem pl_of_pu {d : D} (h : pu d = true) : plD d = true := by cases d <;> first | rfl | simp [pu] at h
theorem pus_iff : ∀ {ds : List D}, pus ds = true ↔ ∀ d ∈ ds, pu d = true
  | [] => by simp [pus]
  | d :: ds => by simp [pus, pus_iff (ds := ds)]
theorem pus_append {xs ys : List D} : pus (xs ++ ys) = (pus xs && pus ys) := by
  induction xs with
  | nil => simp [pus]
  | cons x xs ih => simp [pus, ih, Bool.and_assoc]
/-! ### loops -/
theorem forW_inv {g : MS → Prop} {wg : WG} {wb : WS} {De : DEnds} (I : List D → List D → Rho → MS → Prop) (hg : ∀ dn td ρ S, I dn td ρ S → g S)
    (hs : ∀ dn d td ρ S, I dn (d :: td) ρ S → ∀ N : Rho → MS → Prop, (∀ ρ' S', I (dn ++ [d]) td ρ' S' → N ρ' S') → wg d ρ S fun ρ1 S1 => wb { De with nx := N, ct := N, bk := De.nx } ρ1 S1)
    (hd : ∀ dn ρ S, I dn [] ρ S → De.nx ρ S) : ∀ (td dn : List D) (ρ : Rho) (S : MS), I dn td ρ S → forW g wg wb De td ρ S
  | [], dn, ρ, S, h => ⟨hg dn [] ρ S h, hd dn ρ S h⟩
  | d :: td, dn, ρ, S, h => ⟨hg dn _ ρ S h, hs dn d td ρ S h _ fun ρ' S' h' => forW_inv I hg hs hd td (dn ++ [d]) ρ' S' h'⟩
/-- by turns: I at (number of the turn, state) -/
theorem forW_n {g : MS → Prop} {wg : WG} {wb : WS} {De : DEnds} {ds : List D} (I : Nat → Rho → MS → Prop) (hg : ∀ i ρ S, I i ρ S → g S)
    (hs : ∀ i d ρ S, ds[i]? = some d → I i ρ S → ∀ N : Rho → MS → Prop, (∀ ρ' S', I (i + 1) ρ' S' → N ρ' S') → wg d ρ S fun ρ1 S1 => wb { De with nx := N, ct := N, bk := De.nx } ρ1 S1)
    (hd : ∀ ρ S, I ds.length ρ S → De.nx ρ S) {ρ : Rho} {S : MS} (h : I 0 ρ S) : forW g wg wb De ds ρ S := by
  refine forW_inv (fun dn td ρ S => dn ++ td = ds ∧ I dn.length ρ S) (fun _ _ ρ S ⟨_, h⟩ => hg _ ρ S h) (fun dn d td ρ S ⟨e, h⟩ N hN => ?hs) (fun dn ρ S ⟨e, h⟩ => ?hd) ds [] ρ S ⟨rfl, h⟩
  case hs =>
    refine hs dn.length d ρ S (by rw [← e]; simp) h N fun ρ' S' h' => hN ρ' S' ⟨by rw [← e]; simp, ?_⟩
    rw [List.length_append, List.length_singleton]
    exact h'
  case hd =>
    rw [List.append_nil] at e
    subst e
    exact hd ρ S h
/-! ### comprehensions whose turns change nothing -/
theorem compL_inv {a : Addr} {g : MS → Prop} {wg : WG} {wt : WT} {we : WE} {ρ0 : Rho} {S0 : MS} {Q : MS → Prop} (ha : S0 a = none) (I : List D → List D → List D → Prop) (hg : ∀ S, Sub S0 S → g S)
    (hs : ∀ dn d td acc, I dn (d :: td) acc → ∀ (N : D → MS → Prop) (M : MS → Prop), (∀ x S', S' = S0.set a (.lst acc) → acc.length < sizeLine → I (dn ++ [d]) td (acc ++ [x]) → N x S') → (∀ S', S' = S0.set a (.lst acc) → I (dn ++ [d]) td acc → M S') →
      wg d ρ0 (S0.set a (.lst acc)) fun ρ1 S1 => wt ρ1 S1 fun b ρ2 S2 => if b = true then we ρ2 S2 fun x _ S3 => N x S3 else M S2)
    (hz : ∀ dn td acc, I dn td acc → td ≠ [] → acc.length < sizeLine) (hd : ∀ dn acc, I dn [] acc → Q (S0.set a (.lst acc))) :
    ∀ (td dn acc : List D), I dn td acc → compW a g wg wt we Q ρ0 td (S0.set a (.lst acc))
  | [], dn, acc, h => ⟨hg _ (Sub.set ha), hd dn acc h⟩
  | d :: td, dn, acc, h => ⟨hg _ (Sub.set ha), by
    refine hs dn d td acc h _ _ (fun x S' e hz' hi => ?_) (fun S' e hi => ?_)
    · subst e
      refine ⟨acc, MS.set_same, hz', ?_⟩
      rw [MS.set_set]
      exact compL_inv ha I hg hs hz hd td (dn ++ [d]) (acc ++ [x]) hi
    · subst e
      exact compL_inv ha I hg hs hz hd td (dn ++ [d]) acc hi⟩
/-- the end of a comprehension whose list is not to change -/
theorem endL_f {a : Addr} {S : MS} {ds : List D} {Q : KV2} (h : S a = none) (q : Q (.lst ds) S) : endL false a (S.set a (.lst ds)) Q := ⟨ds, MS.set_same, by
  rw [if_neg Bool.false_ne_true, MS.del_set h]
  exact q⟩
theorem endL_t {a : Addr} {S : MS} {ds : List D} {Q : KV2} (q : Q (.ref a) (S.set a (.lst ds))) : endL true a (S.set a (.lst ds)) Q := ⟨ds, MS.set_same, by
  rw [if_pos rfl]
  exact q⟩
/-- [f x for x in ds] -/
theorem compL_map {g : MS → Prop} {wg : WG} {we : WE} {ρ0 : Rho} {S0 : MS} {Q : KV2} {ds : List D} (f : D → D) (hg : ∀ S, Sub S0 S → g S) (hz : ds.length ≤ sizeLine)
    (hs : ∀ d ∈ ds, ∀ S, Sub S0 S → ∀ N : D → MS → Prop, N (f d) S → wg d ρ0 S fun ρ1 S1 => we ρ1 S1 fun x _ S3 => N x S3) (q : Q (.lst (ds.map f)) S0) :
    ∀ a, S0 a = none → compW a g wg wYes we (fun S2 => endL false a S2 Q) ρ0 ds (S0.set a (.lst [])) := fun a ha => by
  refine compL_inv ha (fun dn td acc => dn ++ td = ds ∧ acc = dn.map f) hg (fun dn d td acc ⟨e, ea⟩ N M hN hM => ?hs) (fun dn td acc ⟨e, ea⟩ hne => ?hz) (fun dn acc ⟨e, ea⟩ => ?hd) ds [] [] ⟨rfl, rfl⟩
  case hs =>
    have hd : d ∈ ds := by rw [← e]; simp
    refine hs d hd _ (Sub.set ha) _ ?_
    refine hN (f d) _ rfl ?_ ⟨by rw [← e]; simp, by rw [ea]; simp⟩
    rw [ea, List.length_map]
    have : ds.length = dn.length + (td.length + 1) := by rw [← e]; simp
    omega
  case hz =>
    rw [ea, List.length_map]
    have h1 : ds.length = dn.length + td.length := by rw [← e]; simp
    have h2 : 0 < td.length := List.length_pos_iff.mpr hne
    omega
  case hd =>
    rw [List.append_nil] at e
    subst e ea
    exact endL_f ha q
/-- the same, a list that may change -/
theorem compL_mapT {g : MS → Prop} {wg : WG} {we : WE} {ρ0 : Rho} {S0 : MS} {Q : KV2} {ds : List D} (f : D → D) (hg : ∀ S, Sub S0 S → g S) (hz : ds.length ≤ sizeLine)
    (hs : ∀ d ∈ ds, ∀ S, Sub S0 S → ∀ N : D → MS → Prop, N (f d) S → wg d ρ0 S fun ρ1 S1 => we ρ1 S1 fun x _ S3 => N x S3) (q : ∀ a, S0 a = none → Q (.ref a) (S0.set a (.lst (ds.map f)))) :
    ∀ a, S0 a = none → compW a g wg wYes we (fun S2 => endL true a S2 Q) ρ0 ds (S0.set a (.lst [])) := fun a ha => by
  refine compL_inv ha (fun dn td acc => dn ++ td = ds ∧ acc = dn.map f) hg (fun dn d td acc ⟨e, ea⟩ N M hN hM => ?hs) (fun dn td acc ⟨e, ea⟩ hne => ?hz) (fun dn acc ⟨e, ea⟩ => ?hd) ds [] [] ⟨rfl, rfl⟩
  case hs =>
    have hd : d ∈ ds := by rw [← e]; simp
    refine hs d hd _ (Sub.set ha) _ ?_
    refine hN (f d) _ rfl ?_ ⟨by rw [← e]; simp, by rw [ea]; simp⟩
    rw [ea, List.length_map]
    have : ds.length = dn.length + (td.length + 1) := by rw [← e]; simp
    omega
  case hz =>
    rw [ea, List.length_map]
    have h1 : ds.length = dn.length + td.length := by rw [← e]; simp
    have h2 : 0 < td.length := List.length_pos_iff.mpr hne
    omega
  case hd =>
    rw [List.append_nil] at e
    subst e ea
    exact endL_t (q a ha)
/-- [f x for x in ds if c x] -/
theorem compL_filter {g : MS → Prop} {wg : WG} {wt : WT} {we : WE} {ρ0 : Rho} {S0 : MS} {Q : KV2} {ds : List D} (f : D → D) (c : D → Bool) (hg : ∀ S, Sub S0 S → g S) (hz : ds.length ≤ sizeLine)
    (hs : ∀ d ∈ ds, ∀ S, Sub S0 S → ∀ (N : D → MS → Prop) (M : MS → Prop), (c d = true → N (f d) S) → (c d = false → M S) → wg d ρ0 S fun ρ1 S1 => wt ρ1 S1 fun b ρ2 S2 => if b = true then we ρ2 S2 fun x _ S3 => N x S3 else M S2) (q : Q (.lst ((ds.filter c).map f)) S0) :
    ∀ a, S0 a = none → compW a g wg wt we (fun S2 => endL false a S2 Q) ρ0 ds (S0.set a (.lst [])) := fun a ha => by
  refine compL_inv ha (fun dn td acc => dn ++ td = ds ∧ acc = (dn.filter c).map f) hg (fun dn d td acc ⟨e, ea⟩ N M hN hM => ?hs) (fun dn td acc ⟨e, ea⟩ hne => ?hz) (fun dn acc ⟨e, ea⟩ => ?hd) ds [] [] ⟨rfl, rfl⟩
  case hs =>
    have hd : d ∈ ds := by rw [← e]; simp
    refine hs d hd _ (Sub.set ha) _ _ (fun hc => ?_) (fun hc => ?_)
    · refine hN (f d) _ rfl ?_ ⟨by rw [← e]; simp, by rw [ea]; simp [hc]⟩
      rw [ea, List.length_map]
      have h1 := List.length_filter_le c dn
      have : ds.length = dn.length + (td.length + 1) := by rw [← e]; simp
      omega
    · exact hM _ rfl ⟨by rw [← e]; simp, by rw [ea]; simp [hc]⟩
  case hz =>
    rw [ea, List.length_map]
    have h0 := List.length_filter_le c dn
    have h1 : ds.length = dn.length + td.length := by rw [← e]; simp
    have h2 : 0 < td.length := List.length_pos_iff.mpr hne
    omega
  case hd =>
    rw [List.append_nil] at e
    subst e ea
    exact endL_f ha q
/-- items of which something is so -/
theorem compL_all {g : MS → Prop} {wg : WG} {we : WE} {ρ0 : Rho} {S0 : MS} {Q : KV2} {ds : List D} (p : D → Prop) (hg : ∀ S, Sub S0 S → g S) (hz : ds.length ≤ sizeLine)
    (hs : ∀ d ∈ ds, ∀ S, Sub S0 S → ∀ N : D → MS → Prop, (∀ x, p x → N x S) → wg d ρ0 S fun ρ1 S1 => we ρ1 S1 fun x _ S3 => N x S3) (q : ∀ xs : List D, xs.length = ds.length → (∀ x ∈ xs, p x) → Q (.lst xs) S0) :
    ∀ a, S0 a = none → compW a g wg wYes we (fun S2 => endL false a S2 Q) ρ0 ds (S0.set a (.lst [])) := fun a ha => by
  refine compL_inv ha (fun dn td acc => dn ++ td = ds ∧ acc.length = dn.length ∧ ∀ x ∈ acc, p x) hg (fun dn d td acc ⟨e, ea, hp⟩ N M hN hM => ?hs) (fun dn td acc ⟨e, ea, _⟩ hne => ?hz) (fun dn acc ⟨e, ea, hp⟩ => ?hd) ds [] [] ⟨rfl, rfl, fun _ h => nomatch h⟩
  case hs =>
    have hd : d ∈ ds := by rw [← e]; simp
    refine hs d hd _ (Sub.set ha) _ fun x hx => ?_
    refine hN x _ rfl ?_ ⟨by rw [← e]; simp, by simp [ea], fun y hy => ?_⟩
    · have : ds.length = dn.length + (td.length + 1) := by rw [← e]; simp
      omega
    · rcases List.mem_append.mp hy with h | h
      · exact hp y h
      · rw [List.mem_singleton.mp h]
        exact hx
  case hz =>
    have h1 : ds.length = dn.length + td.length := by rw [← e]; simp
    have h2 : 0 < td.length := List.length_pos_iff.mpr hne
    omega
  case hd =>
    rw [List.append_nil] at e
    subst e
    exact endL_f ha (q acc ea hp)
theorem noG_any {S0 : MS} : ∀ S, Sub S0 S → noG S := fun _ _ => trivial
/-! ### two lists, the one within the other, known by what stays true of them -/
def vOf : D → V
  | .int i => .int i
  | .ref a => .ref a
  | _ => .non
theorem reps_vOf {K : PySem.W.Frag} {F : Hp} : ∀ {ds : List D}, (∀ d ∈ ds, (∃ i, d = D.int i) ∨ ∃ a, d = D.ref a) → Reps K F ds (ds.map vOf)
  | [], _ => .nil
  | d :: ds, h => by
    refine .cons ?_ (reps_vOf fun x hx => h x (List.mem_cons_of_mem _ hx))
    rcases h d List.mem_cons_self with ⟨i, rfl⟩ | ⟨a, rfl⟩
    · exact .int i
    · exact .ref a
theorem vOf_reps {K : PySem.W.Frag} {F : Hp} : ∀ {ds : List D} {vs : List V}, (∀ d ∈ ds, (∃ i, d = D.int i) ∨ ∃ a, d = D.ref a) → Reps K F ds vs → vs = ds.map vOf
  | [], _, _, r => by cases r; rfl
  | d :: ds, _, h, r => by
    cases r with
    | cons r1 r2 =>
      rw [vOf_reps (fun x hx => h x (List.mem_cons_of_mem _ hx)) r2]
      rcases h d List.mem_cons_self with ⟨i, rfl⟩ | ⟨a, rfl⟩
      · cases r1
        rfl
      · cases r1
        rfl
def opq2 (J : List D → List Int → Addr → Prop) : Hp → Addr → List Addr → Prop := fun H a own => ∃ c ds cells, own = [c] ∧ H a = some (.lst (ds.map vOf)) ∧ H c = some (.lst (cells.map V.int)) ∧ J ds cells c
section
variable {K : PySem.W.Frag} {F F' : Hp} {S : MS} {H H' : Hp} {J : List D → List Int → Addr → Prop} {t : Addr}
def IntRef (J : List D → List Int → Addr → Prop) : Prop := ∀ ds cells c, J ds cells c → ∀ d ∈ ds, (∃ i, d = D.int i) ∨ ∃ a, d = D.ref a
def opened (S : MS) (t c : Addr) (ds : List D) (cells : List Int) : MS := (S.set t (.lst ds)).set c (.lst (cells.map D.int))
theorem FS.open2 (x : FS K F S H) (h : S t = some (.opq (opq2 J))) (hJ : IntRef J) : ∃ c ds cells, J ds cells c ∧ S c = none ∧ c ≠ t ∧ FS K F (opened S t c ds cells) H := by
  obtain ⟨ft, own, ho, hs, hf⟩ := x.st t _ h
  obtain ⟨c, ds, cells, rfl, e1, e2, j⟩ := hf H fun _ _ => rfl
  obtain ⟨fc, sc, ct, _⟩ := ho c (List.mem_singleton.mpr rfl)
  refine ⟨c, ds, cells, j, sc, ct, x.fr, fun a m e => ?_, fun a b u v h1 h2 h3 h4 => ?_⟩
  · unfold opened at e
    by_cases ha : a = c
    · subst ha
      rw [MS.set_same] at e
      cases e
      exact ⟨fc, _, e2, .of_ints cells⟩
    · rw [MS.set_ne ha] at e
      by_cases hb : a = t
      · subst hb
        rw [MS.set_same] at e
        cases e
        exact ⟨ft, _, e1, reps_vOf (hJ ds cells c j)⟩
      · rw [MS.set_ne hb] at e
        obtain ⟨f, k⟩ := x.st a m e
        cases m with
        | opq φ => exact absurd (x.one a t _ _ e h rfl rfl) hb
        | lst ds => exact ⟨f, k⟩
        | dic ks ds => exact ⟨f, k⟩
        | dicT ks ds => exact ⟨f, k⟩
        | ins C ns ds => exact ⟨f, k⟩
  · unfold opened at h1 h2
    have nc : ∀ {a m}, ((S.set t (.lst ds)).set c (.lst (cells.map D.int))) a = some m → isOpq m = true → S a = some m := fun {a m} e o => by
      by_cases ha : a = c
      · subst ha
        rw [MS.set_same] at e
        cases e
        cases o
      · rw [MS.set_ne ha] at e
        by_cases hb : a = t
        · subst hb
          rw [MS.set_same] at e
          cases e
          cases o
        · rw [MS.set_ne hb] at e
          exact e
    exact x.one a b u v (nc h1 h3) (nc h2 h4) h3 h4
theorem FS.close2 {c : Addr} {ds : List D} {cells : List Int} (x : FS K F (opened S t c ds cells) H) (one : ∀ a b m n, S a = some m → S b = some n → isOpq m = true → isOpq n = true → a = b) (h : S t = some (.opq (opq2 J))) (hJ : IntRef J) (sc : S c = none) (ct : c ≠ t) (j : J ds cells c) : FS K F S H := by
  unfold opened at x
  have st1 : ((S.set t (.lst ds)).set c (.lst (cells.map D.int))) t = some (.lst ds) := by rw [MS.set_ne (Ne.symm ct), MS.set_same]
  obtain ⟨ft, us, hu, ru⟩ := x.st t _ st1
  obtain ⟨fc, ws, hw, rw'⟩ := x.st c _ MS.set_same
  have eu := vOf_reps (hJ ds cells c j) ru
  have ew := rw'.ints
  subst eu ew
  refine ⟨x.fr, fun a m e => ?_, one⟩
  by_cases ha : a = t
  · subst ha
    rw [h] at e
    cases e
    refine ⟨ft, [c], fun d hd => ?_, by rw [hu]; rfl, fun H' hH => ?_⟩
    · rw [List.mem_singleton.mp hd]
      exact ⟨fc, sc, ct, by rw [hw]; rfl⟩
    · exact ⟨c, ds, cells, rfl, by rw [hH a (.inl rfl)]; exact hu, by rw [hH c (.inr (List.mem_singleton.mpr rfl))]; exact hw, j⟩
  · have hac : a ≠ c := fun z => by
      rw [z, sc] at e
      cases e
    have e2 : ((S.set t (.lst ds)).set c (.lst (cells.map D.int))) a = some m := by rw [MS.set_ne hac, MS.set_ne ha]; exact e
    obtain ⟨f, k⟩ := x.st a m e2
    refine ⟨f, mok_move k (ExF.refl F) rfl fun b h1 h2 h3 h4 => ⟨h1, ?_, rfl⟩⟩
    have hbc : b ≠ c := fun z => by
      rw [z, MS.set_same] at h2
      cases h2
    rw [MS.set_ne hbc] at h2
    have hbt : b ≠ t := fun z => by
      rw [z, MS.set_same] at h2
      cases h2
    rw [MS.set_ne hbt] at h2
    exact h2
/-- made anew -/
theorem FS.made2 {c : Addr} {ds : List D} {cells : List Int} (x : FS K F (opened S t c ds cells) H) (no : ∀ a m, S a = some m → isOpq m = false) (hJ : IntRef J) (st : S t = none) (sc : S c = none) (ct : c ≠ t) (j : J ds cells c) : FS K F (S.set t (.opq (opq2 J))) H := by
  have e : opened (S.set t (.opq (opq2 J))) t c ds cells = opened S t c ds cells := by
    unfold opened
    rw [MS.set_set]
  rw [← e] at x
  refine x.close2 (fun a b m n h1 h2 h3 h4 => ?_) MS.set_same hJ (by rw [MS.set_ne ct]; exact sc) ct j
  have key : ∀ {a m}, (S.set t (.opq (opq2 J))) a = some m → isOpq m = true → a = t := fun {a m} h o => by
    by_cases ha : a = t
    · exact ha
    · rw [MS.set_ne ha] at h
      rw [no a m h] at o
      cases o
  rw [key h1 h3, key h2 h4]
end
/-- a draw: a number below a limit, all else as it was -/
def drawSp (J : List D → List Int → Addr → Prop) : DSp := fun ds S Q _ => ∃ t n, ds = [.ref t, .int n] ∧ S t = some (.opq (opq2 J)) ∧ (0 < n ∧ n < 1000000000) ∧ ∀ i : Int, 0 ≤ i → i < n → Q (.int i) S
/-- the same over what the thing holds -/
def drawSpO (J : List D → List Int → Addr → Prop) : DSp := fun ds S' Q _ => ∃ S t c n xs cells, ds = [.ref t, .int n] ∧ S' = opened S t c xs cells ∧ J xs cells c ∧ S c = none ∧ c ≠ t ∧ (0 < n ∧ n < 1000000000) ∧
  ∀ (i : Int) xs' cells', 0 ≤ i → i < n → J xs' cells' c → Q (.int i) (opened S t c xs' cells')
theorem draw_of {P : Program} {w : World} {K : PySem.W.Frag} {mg : Str → Option Value} {base : Heap} {CX : CXT} {k : Nat} {x : Str} {ps : List Str} {J : List D → List Int → Addr → Prop} (hJ : IntRef J) (h : Def P w K mg base CX k x ps (drawSpO J)) : Def P w K mg base CX k x ps (drawSp J) := by
  obtain ⟨f, fd, F, r⟩ := h.ex
  refine ⟨f, fd, F.imp fun vs H Q E q => ?_, r⟩
  obtain ⟨ds, F0, S, Qd, Ed, fs, rr, ⟨t, n, rfl, hs, hn, hq⟩, kq, ke⟩ := q
  obtain ⟨c, xs, cells, j, sc, ct, fs2⟩ := fs.open2 hs hJ
  refine ⟨_, F0, opened S t c xs cells, fun d S2 => ∃ i xs' cells', d = .int i ∧ 0 ≤ i ∧ i < n ∧ J xs' cells' c ∧ S2 = opened S t c xs' cells', Ed, fs2, rr, ⟨S, t, c, n, xs, cells, rfl, rfl, j, sc, ct, hn, fun i xs' cells' h1 h2 h3 => ⟨i, xs', cells', rfl, h1, h2, h3, rfl⟩⟩, ?_, ke⟩
  rintro v H' d F' S' ex fs' rv ⟨i, xs', cells', rfl, h1, h2, h3, rfl⟩
  exact kq v H' _ F' S ex (fs'.close2 fs.one hs hJ sc ct h3) rv (hq i h1 h2)
end DL
/-! DL10: x[::-1], {}, sorted of lists and tuples. -/
namespace DL
open PySem PySem.Spec PyProof.Rows L2
section
variable {prog : Program} {w : World} {A : Around} {E : Value → Shared → Prop} {s : Shared}
/-- sorted(x), x's items us: Ok holds behind the collecting -/
theorem sorted_by {v : Value} {us : List Value} {ltv : Value → Value → Bool} {Q : Value → Shared → Prop} (Ok : Shared → Prop) (O : SrtO.Swo ltv) (hz : us.length ≤ sizeLine)
    (hcol : wpAny (model prog w) A.in1 (collect v) (fun ys s1 => ys = us ∧ Ok s1) E s)
    (hS : ∀ s1, Ok s1 → 2 ≤ us.length → SrtO.SortableO prog w A.in1.in1 { s1 with heap := s1.heap.push (seqObj "list" us.toArray 0) } s1.heap.objs.size us ltv)
    (h : ∀ s1, Ok s1 → ∀ (out : List Value) (h' : Heap) (e : Nat), SrtO.Srtd ltv out → SrtO.Stb ltv out us → (∀ b o, s1.heap.get? b = some o → h'.get? b = some o) → h'.get? s1.heap.objs.size = some (seqObj "list" out.toArray e) → Q (.ref s1.heap.objs.size) { s1 with heap := h' }) :
    wpAny (model prog w) A (call (.builtin "sorted") [v]) Q E s := by
  refine Calls.call_function_entry kind_sorted plain_sorted entry_sorted (args_sorted1 v) ?_
  unfold Builtin.«sorted»
  refine wpAny_bind (m := checkCount "sorted" 1 1 [v].length) (wpAny_pure ?_)
  refine wpAny_bind (wpAny_mono hcol (fun ys s1 hy => ?_) fun _ _ x => x)
  obtain ⟨rfl, ok⟩ := hy
  refine wpAny_bind (wpAny_newList (s := s1) ?_ hz)
  have hoL : (s1.heap.push (seqObj "list" ys.toArray 0)).get? s1.heap.objs.size = some (seqObj "list" ys.toArray 0) := Heap.get?_push_size s1.heap rfl
  refine wpAny_bind (wpAny_holding (wpAny_call_entry slot_list_sort ⟨_, hoL, rfl⟩ entry_list_sort (SrtO.list_sort_ord O hoL hz (hS s1 ok) fun out hs hb => ⟨_, rfl, ?_⟩) (args_list_sort _)))
  obtain ⟨e, he⟩ := sortedHeap_at (vs := ys) (out := out.toArray) hoL
  refine wpAny_pure ⟨_, rfl, h s1 ok out _ e hs hb (fun b o q => ?_) he⟩
  exact (PyProof.Rows.sortedHeap_old (Nat.ne_of_lt (Heap.lt_size q)) (Heap.lt_size (Heap.get?_push_of_some _ q))).trans (Heap.get?_push_of_some _ q)
/-- the items of a list or a tuple, collected -/
theorem col_seq {it : Addr} {T : String} {o : Obj} {us : List Value} {n : Nat} (hT : T = "list" ∨ T = "tuple") (ho : s.heap.get? it = some o) (hc : o.cls = .type T) (hd : o.data = .seq us.toArray n) (hz : us.length ≤ sizeLine) :
    wpAny (model prog w) A (collect (.ref it)) (fun ys s1 => ys = us ∧ ∃ h1, s1 = { s with heap := h1 } ∧ ∀ b o, s.heap.get? b = some o → h1.get? b = some o) E s :=
  wpAny_collect_seq (hsz := by rw [List.size_toArray]; exact hz) it hT ho hc hd fun h1 k1 => ⟨by simp, h1, rfl, k1⟩
end
/-- sorted(xs), ints, a list's or a tuple's -/
def rSortedA (K : PySem.W.Frag) : List V → Hp → VK → Prop := fun vs H Q => ∃ (a : Addr) (ns : List Int), vs = [V.ref a] ∧ (SqL K H a (ns.map V.int) ∨ SqT K H a (ns.map V.int)) ∧
  ∀ (ns' : List Int) (p : Addr), ns'.Perm ns → ns'.Pairwise (· ≤ ·) → H p = none → Q (.ref p) (upd H p (.lst (ns'.map V.int)))
section
variable {X : Cx} {K : PySem.W.Frag}
theorem cr_sortedA : CallR X (.builtin "sorted") (rSortedA X.K) := by
  intro pins s σ H vs us Q I r h
  obtain ⟨a, ns, rfl, hs, q⟩ := h
  rw [Vals.ref1 r]
  have key : ∀ (T : String) (its : List Value) (o : Obj) (n : Nat), (T = "list" ∨ T = "tuple") → s.heap.get? a = some o → o.cls = .type T → o.data = .seq its.toArray n → Vals (ns.map V.int) its → (ns.map V.int).length ≤ sizeLine → wpAny (model X.prog X.w) X.A (call (.builtin "sorted") [.ref a]) (EP X pins σ Q) X.xe s := by
    intro T its o n hT ho hc hd rv hz
    have hi := rv.ints
    refine sorted_by _ SrtO.swo_int (by rw [← rv.length]; exact hz) (col_seq hT ho hc hd (by rw [← rv.length]; exact hz)) (fun s1 _ h2 => SrtO.ints_sortable hi h2) fun s1 ok out h' e h1 h2 kp he' => ?_
    obtain ⟨h0, rfl, k0⟩ := ok
    obtain ⟨k1, k2, k3⟩ := SrtO.ints_out hi h1 h2
    have lo : ((out.map SrtO.iv).map V.int).length ≤ sizeLine := by
      have := k2.length_eq
      rw [List.length_map] at hz
      rw [List.length_map]
      omega
    have I1 : Inv X pins σ H { s with heap := h0 } := I.kept (t' := s.toks) k0
    exact ⟨.ref h0.objs.size, upd H h0.objs.size (.lst ((out.map SrtO.iv).map V.int)), I1.laid (t' := s.toks) kp (Nat.le_refl _) ⟨lo, out, e, vals_of_ints k1, he'⟩, rfl, q _ _ k2 k3 (I1.hok.fresh (Nat.le_refl _))⟩
  rcases hs with hs | hs
  · obtain ⟨its, rv, hl, hz⟩ := I.list hs
    obtain ⟨o, ho, hc, n, hd⟩ := hl.isList
    exact key "list" its o n (.inl rfl) ho hc hd rv hz
  · obtain ⟨its, rv, ⟨o, ho, hc, n, hd⟩, hz⟩ := I.tuple hs
    exact key "tuple" its o n (.inr rfl) ho hc hd rv hz
def cSortedA (m : Bool) : D → MS → KV2 → Prop
  | .lst ds => fun S Q => ∃ ns : List Int, ds = ns.map D.int ∧ ∀ ns' : List Int, ns'.Perm ns → ns'.Pairwise (· ≤ ·) → newL m (ns'.map D.int) S Q
  | .tup ds => fun S Q => ∃ ns : List Int, ds = ns.map D.int ∧ ∀ ns' : List Int, ns'.Perm ns → ns'.Pairwise (· ≤ ·) → newL m (ns'.map D.int) S Q
  | _ => fun _ _ => False
theorem roc_sortedA (m : Bool) : ROc K (rSortedA K) (w1 (cSortedA m)) := roc1 fun F S H x v Q R fs rx q k => by
  cases x <;> first | exact q.elim | skip
  · obtain ⟨ns, e, q⟩ := q
    subst e
    obtain ⟨a, vs, rfl, h1, h2, h3⟩ := rx
    have e := h2.ints
    subst e
    exact ⟨a, ns, rfl, .inr h1, fun ns' p hp hs hn => newL_ok k fs (.of_ints ns') (q ns' hp hs) hn⟩
  · obtain ⟨ns, e, q⟩ := q
    subst e
    obtain ⟨a, vs, rfl, h1, h2⟩ := rx
    have e := h2.ints
    subst e
    exact ⟨a, ns, rfl, .inl (.inl h1), fun ns' p hp hs hn => newL_ok k fs (.of_ints ns') (q ns' hp hs) hn⟩
end
/-! ### x[::-1] -/
section
variable {prog : Program} {w : World} {A : Around} {E : Value → Shared → Prop} {s : Shared}
theorem sliceApplied_rev {sl : Addr} {t : Tok} {n : Nat} {Q : Int × Int × Nat → Shared → Prop} (hs : s.heap.IsSliceOf sl .none .none (.int (-1) t))
    (h : Q ((n : Int) - 1, -1, n) s) : wpAny (model prog w) A (Builtin.Slice.sliceApplied (.ref sl) (pure (n : Int))) Q E s := by
  obtain ⟨os, hos, hcs, hds⟩ := id hs
  unfold Builtin.Slice.sliceApplied Builtin.Slice.sliceFields
  refine wpAny_bind (wpAny_bind (wpAny_field hos hds (x := .none) rfl (wpAny_bind (wpAny_field hos hds (x := .none) rfl (wpAny_bind (wpAny_field hos hds (x := .int (-1) t) rfl (wpAny_pure ?_)))))))
  refine wpAny_bind (slicePart_int ?_)
  show wpAny _ _ (if ((-1 : Int) == 0) = true then _ else _) _ _ s
  rw [if_neg (by decide)]
  refine wpAny_bind (slicePart_none (wpAny_bind (slicePart_none (wpAny_bind (wpAny_pure ?_)))))
  have e : Builtin.Slice.slicePlaces ((n : Int) - 1) (-1) (-1) = n := by
    unfold Builtin.Slice.slicePlaces
    rw [if_neg (by decide)]
    by_cases hn : (n : Int) - 1 > -1
    · rw [if_pos hn, show (-(-1 : Int)) = 1 from rfl, Int.ediv_one]
      omega
    · rw [if_neg hn]
      omega
  have q : wpAny (model prog w) A (pure (((n : Int) - 1), (-1 : Int), Builtin.Slice.slicePlaces ((n : Int) - 1) (-1) (-1))) Q E s := by
    rw [e]
    exact wpAny_pure h
  exact q
theorem fm_congr {α β : Type} {f g : α → Option β} : ∀ {l : List α}, (∀ m ∈ l, f m = g m) → l.filterMap f = l.filterMap g
  | [], _ => rfl
  | a :: l, h => by rw [List.filterMap_cons, List.filterMap_cons, h a List.mem_cons_self, fm_congr fun m hm => h m (List.mem_cons_of_mem _ hm)]
theorem pick_rev (xs : Array Value) : ((List.range xs.size).filterMap fun (m : Nat) => xs[(((xs.size : Int) - 1) + (m : Int) * (-1)).toNat]?).toArray = xs.toList.reverse.toArray := by
  have e : ((List.range xs.size).filterMap fun (m : Nat) => xs[(((xs.size : Int) - 1) + (m : Int) * (-1)).toNat]?) = (((List.range xs.size).map fun k => xs.size - 1 - k).filterMap (xs[·]?)) := by
    rw [List.filterMap_map]
    refine fm_congr fun m hm => ?_
    have hm' := List.mem_range.mp hm
    show xs[_]? = xs[xs.size - 1 - m]?
    have : (((xs.size : Int) - 1) + (m : Int) * (-1)).toNat = xs.size - 1 - m := by omega
    rw [this]
  rw [e, PySem.W.krv_range, List.filterMap_reverse, PySem.W.krv_all]
theorem getItem_tuple_rev {t sl : Addr} {items : Array Value} {u : Tok} {Q : Value → Shared → Prop} (ht : IsTup s.heap t items) (hs : s.heap.IsSliceOf sl .none .none (.int (-1) u))
    (h : Q (.ref s.heap.objs.size) { s with heap := s.heap.push { cls := .type "tuple", data := .seq items.toList.reverse.toArray } })
    (hsz : items.size ≤ sizeLine) : wpAny (model prog w) A (getItem (.ref t) (.ref sl)) Q E s := by
  have htake : sizeOk (.seq items.toList.reverse.toArray) := by
    show items.toList.reverse.toArray.size ≤ sizeLine
    rw [List.size_toArray, List.length_reverse, Array.length_toList]
    exact hsz
  obtain ⟨os, hos, hcs, hds⟩ := id hs
  have hTs : s.TypeIs (.ref sl) "slice" := ⟨os, hos, hcs⟩
  unfold getItem
  try with_reducible refine wpAny_holding ?_
  first | refine wpAny_bind (wpAny_pure ?_) | skip
  refine wpAny_bind (wpAny_sequenceKey ht.typeIs (by decide) ?_)
  refine wpAny_bind (wpAny_callSpecial?_slot (name := Str.ofString "__getitem__") ht.typeIs PyProof.Rows.slot_tuple_getitem
    (wpAny_call_entry PyProof.Rows.slot_tuple_getitem ht.typeIs entry_tuple_getitem ?_ (args_tuple_getitem _ _)))
  show wpAny _ _ (Builtin.Tuple.tupleItemsOf (.ref t) >>= _) _ _ s
  refine wpAny_bind (tupleItemsOf_ ht ?_)
  refine wpAny_bind (wpAny_typeOf hTs ?_)
  rw [if_pos (by decide)]
  refine wpAny_bind (sliceApplied_rev hs ?_)
  have hno : ¬ ((((items.size : Int) - 1) == 0 && (-1 : Int) == 1 && items.size == items.size) = true) := by
    intro q
    rw [Bool.and_eq_true, Bool.and_eq_true] at q
    exact absurd q.1.2 (by decide)
  show wpAny _ _ (if (((items.size : Int) - 1) == 0 && (-1 : Int) == 1 && items.size == items.size) = true then _ else _) _ _ s
  rw [if_neg hno, pick_rev]
  first
    | exact wpAny_bind (m := Builtin.Tuple.tupleExact _) (wpAny_newObj_type (wpAny_pure ⟨_, rfl, wpAny_pure h⟩) htake)
    | exact wpAny_bind (m := Builtin.Tuple.tupleExact _) (wpAny_newObj_type (wpAny_bind (wpAny_pure (wpAny_pure ⟨_, rfl, wpAny_pure h⟩))) htake)
    | exact wpAny_bind (wpAny_bind (m := Builtin.Tuple.tupleExact _) (wpAny_newObj_type (wpAny_pure (wpAny_pure ⟨_, rfl, wpAny_pure h⟩)) htake))
    | exact wpAny_bind (wpAny_bind (m := Builtin.Tuple.tupleExact _) (wpAny_newObj_type (wpAny_pure ⟨_, rfl, wpAny_pure h⟩) htake))
end
def rRevX (K : PySem.W.Frag) : V → Hp → VK → Prop := fun x H Q => ∃ a xs, x = .ref a ∧ ((SqL K H a xs ∧ ∀ p, H p = none → Q (.ref p) (upd H p (.lst xs.reverse))) ∨ (SqT K H a xs ∧ NewT H xs.reverse Q))
def tRevX (K : PySem.W.Frag) (te ts : TE) : TE := fun σ H Q => te σ H fun x H1 => ts σ H1 fun k H2 => k = .int (-1) ∧ rRevX K x H2 Q
section
variable {X : Cx} {K : PySem.W.Frag} {L : Lk} {a b : Expr} {ta tb : TE} {wa wb : WE} {pos p2 : Pos}
theorem pe_revX (he : PE X a ta) (hk : PE X b tb) : PE X (.Subscript a (.Slice none none (some b) p2) pos) (tRevX X.K ta tb) := by
  refine ⟨fun pins s σ H Q I h => ?_⟩
  refine Subscript_ (thn (he.run pins s σ H _ I h) fun v s1 ⟨x, H1, I1, r1, q1⟩ => ?_)
  refine wpAny_Slice ?_
  rw [evalPart_none]
  refine wpAny_pure (wpAny_pure ?_)
  rw [evalPart_some]
  refine thn (hk.run pins s1 σ H1 _ I1 q1) fun vk s2 ⟨k, H2, I2, rk, ek, xa, xs, ex, q2⟩ => ?_
  subst ek ex
  obtain ⟨tk, rfl⟩ := rk
  cases r1
  have I4 : Inv X pins σ H2 { s2 with heap := s2.heap.push { cls := .type "slice", data := .fields #[.none, .none, .int (-1) tk] } } := I2.kept (t' := s2.toks) fun b ob q => Heap.get?_push_of_some _ q
  have hsl : (s2.heap.push { cls := .type "slice", data := .fields #[.none, .none, .int (-1) tk] }).IsSliceOf s2.heap.objs.size .none .none (.int (-1) tk) := Heap.IsSliceOf.new ..
  show wpAny (model X.prog X.w) X.A (subscriptTail a (.Slice none none (some b) p2) (.ref xa) (.ref s2.heap.objs.size)) (EP X pins σ Q) X.xe { s2 with heap := s2.heap.push { cls := .type "slice", data := .fields #[.none, .none, .int (-1) tk] } }
  rcases q2 with ⟨hx, q⟩ | ⟨hx, q⟩
  · obtain ⟨its, r, ht, hz⟩ := I4.list hx
    refine tail_any (ops := [.ref xa, .ref s2.heap.objs.size]) ht.isList.typeIs slot_list_getitem.lookup ?_ (by with_unfolding_all rfl)
    refine wpAny_getItem_list_slice (st := some (-1)) ht.isList hsl .none .none (.int _ _) (by simp) ?_ (by rw [List.size_toArray, ← r.length]; exact hz)
    rw [PySem.W.krv_pick]
    refine ⟨.ref _, _, I4.laid (t' := s2.toks) (o := .lst xs.reverse) (fun b ob q => Heap.get?_push_of_some _ q) (Nat.le_refl _) ?_, rfl, q _ (I4.hok.fresh (Nat.le_refl _))⟩
    exact ⟨by rw [List.length_reverse]; exact hz, _, 0, r.reverse, Heap.get?_push_size _ rfl⟩
  · obtain ⟨its, r, ht, hz⟩ := I4.tuple hx
    refine tail_any (ops := [.ref xa, .ref s2.heap.objs.size]) ht.typeIs PyProof.Rows.slot_tuple_getitem.lookup ?_ (by with_unfolding_all rfl)
    refine getItem_tuple_rev ht hsl ?_ (by rw [List.size_toArray, ← r.length]; exact hz)
    exact newT_at (t' := s2.toks) I4 r.reverse (by rw [List.length_reverse]; exact hz) q
def cRev (m : Bool) : D → MS → KV2 → Prop
  | .lst ds => fun S Q => newL m ds.reverse S Q
  | .tup ds => fun S Q => Q (.tup ds.reverse) S
  | _ => fun _ _ => False
def wRev (m : Bool) (wa wb : WE) : WE := fun ρ S Q => wa ρ S fun x ρ1 S1 => wb ρ1 S1 fun k ρ2 S2 => k = .int (-1) ∧ cRev m (rd S2 x) S2 fun d S3 => Q d ρ2 S3
theorem re_rev (m : Bool) (h : RE K L ta wa) (h2 : RE K L tb wb) : RE K L (tRevX K ta tb) (wRev m wa wb) := by
  intro F ρ S σ H Q R mt q k
  refine h F ρ S σ H _ _ mt q fun x H1 dx ρ1 S1 F1 e1 m1 r1 q1 => ?_
  refine h2 F1 ρ1 S1 σ H1 _ _ m1 q1 fun y H2 dy ρ2 S2 F2 e2 m2 r2 q2 => ?_
  obtain ⟨ek, q2⟩ := q2
  subst ek
  cases r2
  refine ⟨rfl, ?_⟩
  have rt := rd_ok m2.fs (r1.up e2)
  have k2 : KO K F2 (fun d S4 => Q d ρ2 S4) R := fun v H' d S' F' e x r q => k v H' d ρ2 S' F' ((e1.trans e2).trans e) (m2.step e x) r q
  generalize rd S2 dx = y at rt q2
  cases y <;> first | exact q2.elim | skip
  · obtain ⟨a, vs, rfl, h1, h2, h3⟩ := rt
    exact ⟨a, vs, rfl, .inr ⟨h1, fun p o hp ho => newT_ok k2 m2.fs h2.reverse q2 hp ho⟩⟩
  · obtain ⟨a, vs, rfl, h1, h2⟩ := rt
    exact ⟨a, vs, rfl, .inl ⟨.inl h1, fun p hp => newL_ok k2 m2.fs h2.reverse q2 hp⟩⟩
theorem de_rev (m : Bool) (h : DE X L a ta wa) (h2 : DE X L b tb wb) : DE X L (.Subscript a (.Slice none none (some b) p2) pos) (tRevX X.K ta tb) (wRev m wa wb) :=
  ⟨pe_revX h.pe h2.pe, re_rev m h.re h2.re⟩
/-! ### {} -/
def wDic0 : WE := fun ρ S Q => Q (.dic [] []) ρ S
theorem re_dic0 : RE K L tDNewK wDic0 := by
  intro F ρ S σ H Q R m q k p hp
  obtain ⟨sp, fp⟩ := m.fs.notS hp
  exact k _ _ _ ρ S _ (ExF.new fp) (m.step (ExF.new fp) (m.fs.grow hp)) (.dic upd_same rfl .nil) q
theorem de_dic0 : DE X L (.Dict [] [] pos) tDNewK wDic0 := ⟨pe_dnewK, re_dic0⟩
end
/-! ### the hand: made, then known by what stays true of it -/
def handSp (J : List D → List Int → Addr → Prop) : DSp := fun ds S Q _ => ∃ ns : List Int, ds = [.lst (ns.map D.int)] ∧ (∀ a m, S a = some m → isOpq m = false) ∧ ∀ t, S t = none → Q (.ref t) (S.set t (.opq (opq2 J)))
def handSpO (J : List D → List Int → Addr → Prop) : DSp := fun ds S Q _ => ∃ ns : List Int, ds = [.lst (ns.map D.int)] ∧ ∀ t c xs cells, S t = none → S c = none → c ≠ t → J xs cells c → Q (.ref t) (opened S t c xs cells)
theorem hand_of {P : Program} {w : World} {K : PySem.W.Frag} {mg : Str → Option Value} {base : Heap} {CX : CXT} {k : Nat} {x : Str} {ps : List Str} {J : List D → List Int → Addr → Prop} (hJ : IntRef J) (h : Def P w K mg base CX k x ps (handSpO J)) : Def P w K mg base CX k x ps (handSp J) := by
  obtain ⟨f, fd, F, r⟩ := h.ex
  refine ⟨f, fd, F.imp fun vs H Q E q => ?_, r⟩
  obtain ⟨ds, F0, S, Qd, Ed, fs, rr, ⟨ns, rfl, no, hq⟩, kq, ke⟩ := q
  refine ⟨_, F0, S, fun d S2 => ∃ t c xs cells, d = .ref t ∧ S t = none ∧ S c = none ∧ c ≠ t ∧ J xs cells c ∧ S2 = opened S t c xs cells, Ed, fs, rr, ⟨ns, rfl, fun t c xs cells h1 h2 h3 h4 => ⟨t, c, xs, cells, rfl, h1, h2, h3, h4, rfl⟩⟩, ?_, ke⟩
  rintro v H' d F' S' ex fs' rv ⟨t, c, xs, cells, rfl, h1, h2, h3, h4, rfl⟩
  exact kq v H' _ F' _ ex (fs'.made2 no hJ h1 h2 h3 h4) rv (hq t h1)
/-- made of the store as it is: the cells first, then the thing -/
theorem opened_mk {S : MS} {t c : Addr} {ds : List D} {cells : List Int} (h : c ≠ t) : (S.set c (.lst (cells.map D.int))).set t (.lst ds) = opened S t c ds cells := by
  unfold opened
  rw [MS.set_comm h]
end DL
/-! DL11: the rules with the frag named, for use within comprehensions. -/
namespace DL
open PySem PySem.Spec PyProof.Rows L2
section
variable {X : Cx} {L : Lk} {K : PySem.W.Frag}
theorem op_addK (K : PySem.W.Frag) (hK : X.K = K := by rfl) : OpR X (binaryOp .Add) (rAddA K) := by subst hK; exact op_addA
theorem op_mulK (K : PySem.W.Frag) (hK : X.K = K := by rfl) : OpR X (binaryOp .Mult) (rMulA K) := by subst hK; exact op_mulA
theorem op_eqK (K : PySem.W.Frag) (h : X.A.units + 64 < cLine) (hK : X.K = K := by rfl) : OpR X (compareOp .Eq) (rEqD K) := by subst hK; exact op_eqD h
theorem op_neK (K : PySem.W.Frag) (h : X.A.units + 64 < cLine) (hK : X.K = K := by rfl) : OpR X (compareOp .NotEq) (rNeD K) := by subst hK; exact op_neD h
theorem op_inK (K : PySem.W.Frag) (hK : X.K = K := by rfl) : OpR X (compareOp .In) (rIn K false) := by subst hK; exact op_in_seq
theorem op_notInK (K : PySem.W.Frag) (hK : X.K = K := by rfl) : OpR X (compareOp .NotIn) (rIn K true) := by subst hK; exact op_notIn_seq
theorem call_lenK (K : PySem.W.Frag) (hK : X.K = K := by rfl) : CallR X (.builtin "len") (rLen1 K) := by subst hK; exact call_len
theorem cr_allK (K : PySem.W.Frag) (h : X.calm = true) (hK : X.K = K := by rfl) : CallR X (.builtin "all") (rAll K) := by subst hK; exact cr_all h
theorem cr_anyK (K : PySem.W.Frag) (h : X.calm = true) (hK : X.K = K := by rfl) : CallR X (.builtin "any") (rAny K) := by subst hK; exact cr_any h
theorem call_listK (K : PySem.W.Frag) (hK : X.K = K := by rfl) : CallR X (.type "list") (rListOf K) := by subst hK; exact call_list_of
theorem call_tupleK (K : PySem.W.Frag) (hK : X.K = K := by rfl) : CallR X (.type "tuple") (rTupleOf K) := by subst hK; exact call_tupF
theorem cr_sortedK (K : PySem.W.Frag) (hK : X.K = K := by rfl) : CallR X (.builtin "sorted") (rSortedA K) := by subst hK; exact cr_sortedA
variable {a b e o : Expr} {es : List Expr} {ta tb to : TE} {wa wb wo : DL.WE} {t : TA} {wr : WA} {pos p p2 : Pos}
theorem de_isiK (K : PySem.W.Frag) (T : BT) {x : Str} {q1 : Pos} (hg : Gl X "isinstance") (hm : X.mg "isinstance" = none) (h : DE X L a ta wa) (hmx : X.mg x = none) (hx : x = Str.ofString T.nm := by rfl) (hgx : Gl X x := by rfl) (hn : x ≠ "__name__" := by decide) (hdb : (x == ("__debug__" : Str)) = false := by decide)
    (h6 : starEach [a, Expr.Name x q1] X.env = (false, eval a X.env) :: starEach [Expr.Name x q1] X.env := by rfl) (h7 : starEach [Expr.Name x q1] X.env = (false, eval (Expr.Name x q1) X.env) :: starEach [] X.env := by rfl) (h8 : ((backTo pos (starEach [Expr.Name x q1] X.env)).any fun x => x.fst) = false := by rfl) (hK : X.K = K := by rfl) :
    DE X L ((Expr.Name (Str.ofString "isinstance") p).Call [a, Expr.Name x q1] [] pos) (tCB (rIsi K) (tCons ta (tCons (tC (V.ty T.nm)) tNil))) (wIsi T wa) := by
  subst hK
  exact de_isi T hg hm h hx hgx hmx hn hdb h6 h7 h8
theorem de_isi2K (K : PySem.W.Frag) (T T2 : BT) {x y : Str} {q1 q2 q3 : Pos} {kt : Nat} (hg : Gl X "isinstance") (hm : X.mg "isinstance" = none) (h : DE X L a ta wa) (hmx : X.mg x = none) (hmy : X.mg y = none) (hx : x = Str.ofString T.nm := by rfl) (hy : y = Str.ofString T2.nm := by rfl) (hgx : Gl X x := by rfl) (hgy : Gl X y := by rfl) (hn : x ≠ "__name__" := by decide) (hdb : (x == ("__debug__" : Str)) = false := by decide)
    (hn2 : y ≠ "__name__" := by decide) (hdb2 : (y == ("__debug__" : Str)) = false := by decide)
    (h6 : starEach [a, Expr.Tuple [Expr.Name x q1, Expr.Name y q2] kt q3] X.env = (false, eval a X.env) :: starEach [Expr.Tuple [Expr.Name x q1, Expr.Name y q2] kt q3] X.env := by rfl)
    (h7 : starEach [Expr.Tuple [Expr.Name x q1, Expr.Name y q2] kt q3] X.env = (false, eval (Expr.Tuple [Expr.Name x q1, Expr.Name y q2] kt q3) X.env) :: starEach [] X.env := by rfl)
    (h8 : starEach [Expr.Name x q1, Expr.Name y q2] X.env = (false, eval (Expr.Name x q1) X.env) :: starEach [Expr.Name y q2] X.env := by rfl) (h9 : starEach [Expr.Name y q2] X.env = (false, eval (Expr.Name y q2) X.env) :: starEach [] X.env := by rfl)
    (h10 : ((backTo pos (starEach [Expr.Tuple [Expr.Name x q1, Expr.Name y q2] kt q3] X.env)).any fun x => x.fst) = false := by rfl) (hK : X.K = K := by rfl) :
    DE X L ((Expr.Name (Str.ofString "isinstance") p).Call [a, Expr.Tuple [Expr.Name x q1, Expr.Name y q2] kt q3] [] pos) (tCB (rIsiT K) (tCons ta (tCons (tTup (tCons (tC (V.ty T.nm)) (tCons (tC (V.ty T2.nm)) tNil))) tNil))) (wIsi2 T T2 wa) := by
  subst hK
  exact de_isi2 T T2 hg hm h hx hy hgx hgy hmx hmy hn hdb hn2 hdb2 h6 h7 h8 h9 h10
theorem de_ixK (K : PySem.W.Frag) (ha : DE X L a ta wa) (hb : DE X L b tb wb) (hs : PlainIx b := by exact fun _ _ => rfl) (hK : X.K = K := by rfl) : DE X L (a.Subscript b pos) (tOp (rIx K) ta tb) (wOp wIx wa wb) := by
  subst hK
  exact de_ix ha hb hs
theorem de_slK (K : PySem.W.Frag) (m : Bool) {lo hi : Option Expr} {tl th : TO} {wl wh : WO} (h : DE X L a ta wa) (hl : DO X L lo tl wl) (hh : DO X L hi th wh) (hK : X.K = K := by rfl) : DE X L (.Subscript a (.Slice lo hi none p2) pos) (tSl (rSlA2 K) ta tl th) (wSl m wa wl wh) := by
  subst hK
  exact de_sl m h hl hh
theorem de_revK (K : PySem.W.Frag) (m : Bool) (h : DE X L a ta wa) (h2 : DE X L b tb wb) (hK : X.K = K := by rfl) : DE X L (.Subscript a (.Slice none none (some b) p2) pos) (tRevX K ta tb) (wRev m wa wb) := by
  subst hK
  exact de_rev m h h2
theorem di_seqK (K : PySem.W.Frag) {tg : Expr} (h : DE X L a ta wa) (hK : X.K = K := by rfl) : DI X L tg a (iSeq K ta) (wiSeq wa) := by
  subst hK
  exact di_seq h
theorem di_enumK (K : PySem.W.Frag) {tpos : Pos} {elts : List Expr} {kk : Nat} (hg : Gl X "enumerate") (hm : X.mg "enumerate" = none) (ha : DA X L [e] t wr) (hs : starEach [e] X.env = [(false, eval e X.env)] := by rfl) (hK : X.K = K := by rfl) :
    DI X L (.Tuple elts kk tpos) (.Call (.Name "enumerate" p) [e] [] pos) (iEnumA K t) (wiEnum wr) := by
  subst hK
  exact di_enum hg hm ha hs
theorem di_zipK (K : PySem.W.Frag) {e2 : Expr} {tpos : Pos} {elts : List Expr} {kk : Nat} (hg : Gl X "zip") (hm : X.mg "zip" = none) (ha : DA X L [e, e2] t wr) (hs : starEach [e, e2] X.env = (false, eval e X.env) :: starEach [e2] X.env := by rfl) (hs2 : ((backTo pos (starEach [e2] X.env)).any fun x => x.fst) = false := by rfl) (hK : X.K = K := by rfl) :
    DI X L (.Tuple elts kk tpos) (.Call (.Name "zip" p) [e, e2] [] pos) (RZ.iZipA K t) (wiZip wr) := by
  subst hK
  exact di_zip hg hm ha hs hs2
theorem de_bmK (K : PySem.W.Frag) {T id : String} {name : Str} {apos cpos : Pos} {r : V → List V → Hp → VK → Prop} {wm : D → List D → MS → KV2 → Prop} (pa : PlainAttrs T) (slot : Slot T name id) (hty : typeOf (.builtin id) = pure (.type "method_descriptor")) (hm : MtR X id r) (hr : RM K r wm) (ho : DE X L o to wo) (ha : DA X L (e :: es) t wr)
    (h1 : attributeBase o name X.env (eval o X.env) = eval o X.env := by rfl)
    (h2 : ((((backTo cpos (starEach (e :: es) X.env)).all fun x => !x.fst) && (backToKw cpos (keywordEach [] X.env)).all fun x => x.fst.isSome) && decide (((e :: es).length + ([] : List Keyword).length + if ([] : List Keyword).isEmpty = true then 0 else 1) < 30)) = true := by rfl)
    (h3 : (apos.endLine == cpos.line) = true := by rfl) (h4 : starEach (e :: es) X.env = (false, eval e X.env) :: starEach es X.env := by rfl) (h5 : ((backTo cpos (starEach es X.env)).any fun x => x.fst) = false := by rfl) (hK : X.K = K := by rfl) :
    DE X L ((o.Attribute name apos).Call (e :: es) [] cpos) (tBM K T r to t) (wBM T wm wo wr) := by
  subst hK
  exact de_bm pa slot hty hm hr ho ha h1 h2 h3 h4 h5
theorem de_bm0K (K : PySem.W.Frag) {T id : String} {name : Str} {apos cpos : Pos} {r : V → List V → Hp → VK → Prop} {wm : D → List D → MS → KV2 → Prop} (pa : PlainAttrs T) (slot : Slot T name id) (hty : typeOf (.builtin id) = pure (.type "method_descriptor")) (hm : MtR X id r) (hr : RM K r wm) (ho : DE X L o to wo)
    (h1 : attributeBase o name X.env (eval o X.env) = eval o X.env := by rfl) (h3 : (apos.endLine == cpos.line) = true := by rfl) (hK : X.K = K := by rfl) :
    DE X L ((o.Attribute name apos).Call [] [] cpos) (tBM0 K T r to) (wBM T wm wo wNil) := by
  subst hK
  exact de_bm0 pa slot hty hm hr ho h1 h3
variable {x : Str} {CX : CXT} {k : Nat} {ps : List Str} {sp : DSp}
theorem de_callK (C : Def X.prog X.w K X.mg X.base CX k x ps sp) (hr : RoomG k X.A) (hx : Passes CX X E0) (hg : Gl X x) (ha : DA X L (e :: es) t wr) (hdb : (x == ("__debug__" : Str)) = false := by decide) (he : starEach (e :: es) X.env = (false, eval e X.env) :: starEach es X.env := by rfl) (hpl : (backTo pos (starEach es X.env)).any (·.1) = false := by rfl) (hK : X.K = K := by rfl) :
    DE X L (.Call (.Name x p) (e :: es) [] pos) (tCall (spD K sp) [] E0 t) (wCall sp wr) := by
  subst hK
  exact de_call C hr hx hg ha hdb he hpl
theorem de_call0K (C : Def X.prog X.w K X.mg X.base CX k x ps sp) (hr : RoomG k X.A) (hx : Passes CX X E0) (hg : Gl X x) (hdb : (x == ("__debug__" : Str)) = false := by decide) (hK : X.K = K := by rfl) :
    DE X L (.Call (.Name x p) [] [] pos) (tCall (spD K sp) [] E0 tNil) (wCall sp wNil) := by
  subst hK
  exact de_call0 C hr hx hg hdb
theorem de_callXK (C : Def X.prog X.w K X.mg X.base CX k x ps sp) (hr : RoomG k X.A) (hx : Passes CX X L.E) (hg : Gl X x) (ha : DA X L (e :: es) t wr) (hdb : (x == ("__debug__" : Str)) = false := by decide) (he : starEach (e :: es) X.env = (false, eval e X.env) :: starEach es X.env := by rfl) (hpl : (backTo pos (starEach es X.env)).any (·.1) = false := by rfl) (hK : X.K = K := by rfl) :
    DE X L (.Call (.Name x p) (e :: es) [] pos) (tCall (spD K sp) [] L.E t) (wCallX L sp wr) := by
  subst hK
  exact de_callX C hr hx hg ha hdb he hpl
theorem dg_tupK (K : PySem.W.Frag) {vs : List Nat} {kk : Nat} {g : TGs} {w : WGs} {n : Nat} (hc : X.calm = true) (h : DGs X L vs es g w)
    (hn : (assignEach es X.env).length = n := by rfl) (hst : (assignEach es X.env).findIdx? (·.1) = none := by rfl) (hK : X.K = K := by rfl) : DG X L vs (.Tuple es kk pos) (gTup K n g) (wgTup (lenOk n w)) := by
  subst hK
  exact dg_tup hc h hn hst
end
end DL
/-! DL12: readings by rewriting. -/
namespace DL
open PySem PySem.Spec PyProof.Rows L2
theorem eqD_int {a b : Int} : eqD (.int a) (.int b) = decide (a = b) := by
  simp only [eqD, toPy, PyData.eqv]
  rfl
theorem eqD_bl {a b : Bool} : eqD (.bl a) (.bl b) = (a == b) := by simp [eqD, toPy, PyData.eqv]
theorem eqD_non : eqD .non .non = true := by simp [eqD, toPy, PyData.eqv]
theorem okD_int {a : Int} : okD (.int a) = true := rfl
theorem okD_bl {a : Bool} : okD (.bl a) = true := rfl
theorem okD_non : okD .non = true := rfl
theorem isNon_int {a : Int} : isNon (.int a) = false := rfl
theorem isNon_bl {a : Bool} : isNon (.bl a) = false := rfl
theorem isNon_non : isNon .non = true := rfl
theorem isNon_tup {a : List D} : isNon (.tup a) = false := rfl
theorem isNon_str {a : Str} : isNon (.str a) = false := rfl
theorem isNon_ref {a : Addr} : isNon (.ref a) = false := rfl
theorem isNon_lst {a : List D} : isNon (.lst a) = false := rfl
theorem ex_some_iff {a : D} {p : D → Prop} : (∃ d, some (some a) = some (some d) ∧ p d) ↔ p a := ⟨fun ⟨d, e, h⟩ => by cases e; exact h, fun h => ⟨a, rfl, h⟩⟩
theorem ite_bl {c : Bool} {p q : Prop} (hp : c = true → p) (hq : c = false → q) : if c = true then p else q := by
  cases c
  · rw [if_neg Bool.false_ne_true]; exact hq rfl
  · rw [if_pos rfl]; exact hp rfl
theorem pl_int {a : Int} : plD (.int a) = true := rfl
theorem pl_bl {a : Bool} : plD (.bl a) = true := rfl
theorem pl_non : plD .non = true := rfl
theorem pl_tup {a : List D} : plD (.tup a) = true := rfl
theorem pl_lst {a : List D} : plD (.lst a) = true := rfl
theorem pl_str {a : Str} : plD (.str a) = true := rfl
theorem le_sz {n : Nat} (h : n ≤ 1000000) : n ≤ sizeLine := by rw [sizeLine_eq]; omega
theorem lt_sz {n : Nat} (h : n < 1000000) : n < sizeLine := by rw [sizeLine_eq]; omega
theorem pu_tup {ds : List D} : pu (.tup ds) = pus ds := rfl
theorem pu_lst {ds : List D} : pu (.lst ds) = pus ds := rfl
theorem pu_int {i : Int} : pu (.int i) = true := rfl
theorem pu_bl {i : Bool} : pu (.bl i) = true := rfl
theorem pu_non : pu .non = true := rfl
theorem pus_ints {ns : List Int} : pus (ns.map D.int) = true := by
  induction ns with
  | nil => rfl
  | cons n ns ih => simp [pus, pu, ih]
theorem pus_mem {ds : List D} (h : pus ds = true) {d : D} (m : d ∈ ds) : pu d = true := pus_iff.mp h d m
theorem pus_getD {ds : List D} (h : pus ds = true) (i : Nat) : pu (ds.getD i .non) = true := by
  rw [List.getD_eq_getElem?_getD]
  cases e : ds[i]? with
  | none => rfl
  | some d => exact pus_mem h (List.mem_of_getElem? e)
theorem rd_pu {S : MS} {d : D} (h : pu d = true) : rd S d = d := rd_pl (pl_of_pu h)
theorem atI_nat {ds : List D} {i : Int} {d : D} (h0 : 0 ≤ i) (h : ds[i.toNat]? = some d) : atI ds i = some d := by
  have hl : i.toNat < ds.length := (List.getElem?_eq_some_iff.mp h).1
  unfold atI ixN
  rw [if_pos h0, if_pos (by omega)]
  exact h
theorem atI_lt {ds : List D} {i : Int} (h0 : 0 ≤ i) (h : i < ds.length) : atI ds i = some (ds.getD i.toNat .non) := by
  refine atI_nat h0 ?_
  rw [List.getD_eq_getElem?_getD]
  have : i.toNat < ds.length := by omega
  rw [List.getElem?_eq_getElem this]
  rfl
theorem ex_at_iff {ds : List D} {i : Int} {p : D → Prop} (h0 : 0 ≤ i) (h : i < ds.length) : (∃ d, atI ds i = some d ∧ p d) ↔ p (ds.getD i.toNat .non) := by
  rw [atI_lt h0 h]
  exact ⟨fun ⟨d, e, q⟩ => by cases e; exact q, fun q => ⟨_, rfl, q⟩⟩
theorem cAll_bl {bs : List Bool} {S : MS} {Q : KV2} (q : Q (.bl (bs.all id)) S) : cAll (.lst (bs.map D.bl)) S Q := ⟨bs, rfl, q⟩
theorem cAny_bl {bs : List Bool} {S : MS} {Q : KV2} (q : Q (.bl (bs.any id)) S) : cAny (.lst (bs.map D.bl)) S Q := ⟨bs, rfl, q⟩
theorem map_bl {ds : List D} {f : D → Bool} : ds.map (fun d => D.bl (f d)) = (ds.map f).map D.bl := by rw [List.map_map]; rfl
theorem all_map_id {α : Type} {ds : List α} {f : α → Bool} : (ds.map f).all id = ds.all f := by rw [List.all_map]; rfl
/-! ### what == covers, and what it tells -/
def okL (n : Nat) (d : D) : Bool := (toPy d).canLay0 && decide ((toPy d).depth ≤ n)
theorem okD_L {d : D} : okD d = okL 64 d := rfl
theorem okL_mono {n m : Nat} {d : D} (h : okL n d = true) (l : n ≤ m) : okL m d = true := by
  simp only [okL, Bool.and_eq_true, decide_eq_true_eq] at h ⊢
  exact ⟨h.1, by omega⟩
theorem okL_int {n : Nat} {i : Int} : okL n (.int i) = true := by simp [okL, toPy, PyData.canLay0, PyData.depth]
theorem okL_bl {n : Nat} {i : Bool} : okL n (.bl i) = true := by simp [okL, toPy, PyData.canLay0, PyData.depth]
theorem okL_non {n : Nat} : okL n .non = true := by simp [okL, toPy, PyData.canLay0, PyData.depth]
theorem okL_all {n : Nat} : ∀ {ds : List D}, (∀ d ∈ ds, okL n d = true) → PyData.canLayAll0 (toPys ds) = true ∧ PyData.depthAll (toPys ds) ≤ n
  | [], _ => by simp [toPys, PyData.canLayAll0, PyData.depthAll]
  | d :: ds, h => by
    have h1 := h d List.mem_cons_self
    have h2 := okL_all (n := n) fun x hx => h x (List.mem_cons_of_mem _ hx)
    simp only [okL, Bool.and_eq_true, decide_eq_true_eq] at h1
    simp only [toPys, PyData.canLayAll0, PyData.depthAll, Bool.and_eq_true]
    exact ⟨⟨h1.1, h2.1⟩, by omega⟩
theorem okL_lst {n : Nat} {ds : List D} (h : ∀ d ∈ ds, okL n d = true) : okL (n + 1) (.lst ds) = true := by
  have := okL_all h
  simp only [okL, toPy, PyData.canLay0, PyData.depth, Bool.and_eq_true, decide_eq_true_eq]
  exact ⟨this.1, by omega⟩
theorem okL_tup {n : Nat} {ds : List D} (h : ∀ d ∈ ds, okL n d = true) : okL (n + 1) (.tup ds) = true := by
  have := okL_all h
  simp only [okL, toPy, PyData.canLay0, PyData.depth, Bool.and_eq_true, decide_eq_true_eq]
  exact ⟨this.1, by omega⟩
theorem okD_ints {ns : List Int} : okD (.lst (ns.map D.int)) = true := okL_mono (okL_lst (n := 0) fun d hd => by
  obtain ⟨i, _, rfl⟩ := List.mem_map.mp hd
  exact okL_int) (by decide)
theorem okD_intsT {ns : List Int} : okD (.tup (ns.map D.int)) = true := okL_mono (okL_tup (n := 0) fun d hd => by
  obtain ⟨i, _, rfl⟩ := List.mem_map.mp hd
  exact okL_int) (by decide)
theorem eqD_refl {d : D} (h : okD d = true) : eqD d d = true := SeqAt.eqv_refl _ (SeqAt.canLay_of_shaped h)
theorem eqvAll_ints : ∀ {xs ys : List Int}, PyData.eqvAll (toPys (xs.map D.int)) (toPys (ys.map D.int)) = decide (xs = ys)
  | [], [] => by simp [toPys, PyData.eqvAll]
  | [], y :: ys => by simp [toPys, PyData.eqvAll]
  | x :: xs, [] => by simp [toPys, PyData.eqvAll]
  | x :: xs, y :: ys => by
    have ih := eqvAll_ints (xs := xs) (ys := ys)
    simp only [List.map_cons, toPys, PyData.eqvAll, toPy, PyData.eqv, ih, List.cons.injEq]
    rw [Bool.decide_and]
    rfl
theorem eqD_ints {xs ys : List Int} : eqD (.lst (xs.map D.int)) (.lst (ys.map D.int)) = decide (xs = ys) := by
  simp only [eqD, toPy, PyData.eqv]
  exact eqvAll_ints
theorem eqD_intsT {xs ys : List Int} : eqD (.tup (xs.map D.int)) (.tup (ys.map D.int)) = decide (xs = ys) := by
  simp only [eqD, toPy, PyData.eqv]
  exact eqvAll_ints
/-! ### readings of data of a known shape -/
theorem z_ix_at {ds : List D} {i : Int} {d : D} {S : MS} {Q : KV2} (h : atI ds i = some d) : wIx (.lst ds) (.int i) S Q ↔ Q d S := ⟨fun ⟨x, e, q⟩ => by rw [h] at e; cases e; exact q, fun q => ⟨d, h, q⟩⟩
theorem z_ixt_at {ds : List D} {i : Int} {d : D} {S : MS} {Q : KV2} (h : atI ds i = some d) : wIx (.tup ds) (.int i) S Q ↔ Q d S := ⟨fun ⟨x, e, q⟩ => by rw [h] at e; cases e; exact q, fun q => ⟨d, h, q⟩⟩
theorem atI_lit {l : List D} {d : D} {k : Nat} (h : l[k]? = some d) : atI l ((k : Nat) : Int) = some d := atI_nat (Int.natCast_nonneg k) (by rw [Int.toNat_natCast]; exact h)
theorem z_ix_0 {a0 : D} {l : List D} {S : MS} {Q : KV2} : wIx (.lst (a0 :: l)) (.int 0) S Q ↔ Q a0 S := z_ix_at (atI_lit (k := 0) rfl)
theorem z_ixt_0 {a0 : D} {l : List D} {S : MS} {Q : KV2} : wIx (.tup (a0 :: l)) (.int 0) S Q ↔ Q a0 S := z_ixt_at (atI_lit (k := 0) rfl)
theorem z_ix_1 {a0 a1 : D} {l : List D} {S : MS} {Q : KV2} : wIx (.lst (a0 :: a1 :: l)) (.int 1) S Q ↔ Q a1 S := z_ix_at (atI_lit (k := 1) rfl)
theorem z_ixt_1 {a0 a1 : D} {l : List D} {S : MS} {Q : KV2} : wIx (.tup (a0 :: a1 :: l)) (.int 1) S Q ↔ Q a1 S := z_ixt_at (atI_lit (k := 1) rfl)
theorem z_ix_2 {a0 a1 a2 : D} {l : List D} {S : MS} {Q : KV2} : wIx (.lst (a0 :: a1 :: a2 :: l)) (.int 2) S Q ↔ Q a2 S := z_ix_at (atI_lit (k := 2) rfl)
theorem z_ixt_2 {a0 a1 a2 : D} {l : List D} {S : MS} {Q : KV2} : wIx (.tup (a0 :: a1 :: a2 :: l)) (.int 2) S Q ↔ Q a2 S := z_ixt_at (atI_lit (k := 2) rfl)
theorem z_ix_3 {a0 a1 a2 a3 : D} {l : List D} {S : MS} {Q : KV2} : wIx (.lst (a0 :: a1 :: a2 :: a3 :: l)) (.int 3) S Q ↔ Q a3 S := z_ix_at (atI_lit (k := 3) rfl)
theorem z_ixt_3 {a0 a1 a2 a3 : D} {l : List D} {S : MS} {Q : KV2} : wIx (.tup (a0 :: a1 :: a2 :: a3 :: l)) (.int 3) S Q ↔ Q a3 S := z_ixt_at (atI_lit (k := 3) rfl)
theorem z_ix_4 {a0 a1 a2 a3 a4 : D} {l : List D} {S : MS} {Q : KV2} : wIx (.lst (a0 :: a1 :: a2 :: a3 :: a4 :: l)) (.int 4) S Q ↔ Q a4 S := z_ix_at (atI_lit (k := 4) rfl)
theorem z_ixt_4 {a0 a1 a2 a3 a4 : D} {l : List D} {S : MS} {Q : KV2} : wIx (.tup (a0 :: a1 :: a2 :: a3 :: a4 :: l)) (.int 4) S Q ↔ Q a4 S := z_ixt_at (atI_lit (k := 4) rfl)
theorem z_ix_5 {a0 a1 a2 a3 a4 a5 : D} {l : List D} {S : MS} {Q : KV2} : wIx (.lst (a0 :: a1 :: a2 :: a3 :: a4 :: a5 :: l)) (.int 5) S Q ↔ Q a5 S := z_ix_at (atI_lit (k := 5) rfl)
theorem z_ixt_5 {a0 a1 a2 a3 a4 a5 : D} {l : List D} {S : MS} {Q : KV2} : wIx (.tup (a0 :: a1 :: a2 :: a3 :: a4 :: a5 :: l)) (.int 5) S Q ↔ Q a5 S := z_ixt_at (atI_lit (k := 5) rfl)
theorem z_ix_6 {a0 a1 a2 a3 a4 a5 a6 : D} {l : List D} {S : MS} {Q : KV2} : wIx (.lst (a0 :: a1 :: a2 :: a3 :: a4 :: a5 :: a6 :: l)) (.int 6) S Q ↔ Q a6 S := z_ix_at (atI_lit (k := 6) rfl)
theorem z_ixt_6 {a0 a1 a2 a3 a4 a5 a6 : D} {l : List D} {S : MS} {Q : KV2} : wIx (.tup (a0 :: a1 :: a2 :: a3 :: a4 :: a5 :: a6 :: l)) (.int 6) S Q ↔ Q a6 S := z_ixt_at (atI_lit (k := 6) rfl)
theorem z_ix_7 {a0 a1 a2 a3 a4 a5 a6 a7 : D} {l : List D} {S : MS} {Q : KV2} : wIx (.lst (a0 :: a1 :: a2 :: a3 :: a4 :: a5 :: a6 :: a7 :: l)) (.int 7) S Q ↔ Q a7 S := z_ix_at (atI_lit (k := 7) rfl)
theorem z_ixt_7 {a0 a1 a2 a3 a4 a5 a6 a7 : D} {l : List D} {S : MS} {Q : KV2} : wIx (.tup (a0 :: a1 :: a2 :: a3 :: a4 :: a5 :: a6 :: a7 :: l)) (.int 7) S Q ↔ Q a7 S := z_ixt_at (atI_lit (k := 7) rfl)
theorem z_ix_8 {a0 a1 a2 a3 a4 a5 a6 a7 a8 : D} {l : List D} {S : MS} {Q : KV2} : wIx (.lst (a0 :: a1 :: a2 :: a3 :: a4 :: a5 :: a6 :: a7 :: a8 :: l)) (.int 8) S Q ↔ Q a8 S := z_ix_at (atI_lit (k := 8) rfl)
theorem z_ixt_8 {a0 a1 a2 a3 a4 a5 a6 a7 a8 : D} {l : List D} {S : MS} {Q : KV2} : wIx (.tup (a0 :: a1 :: a2 :: a3 :: a4 :: a5 :: a6 :: a7 :: a8 :: l)) (.int 8) S Q ↔ Q a8 S := z_ixt_at (atI_lit (k := 8) rfl)
theorem z_ix_lt {ds : List D} {i : Int} {S : MS} {Q : KV2} (h0 : 0 ≤ i) (h : i < ds.length) : wIx (.lst ds) (.int i) S Q ↔ Q (ds.getD i.toNat .non) S := z_ix_at (atI_lt h0 h)
theorem z_ixt_lt {ds : List D} {i : Int} {S : MS} {Q : KV2} (h0 : 0 ≤ i) (h : i < ds.length) : wIx (.tup ds) (.int i) S Q ↔ Q (ds.getD i.toNat .non) S := z_ixt_at (atI_lt h0 h)
theorem z_add_int {i j : Int} {m : Bool} {S : MS} {Q : KV2} : wAdd m (.int i) (.int j) S Q ↔ Q (.int (i + j)) S := Iff.rfl
theorem z_add_tup {i j : List D} {m : Bool} {S : MS} {Q : KV2} : wAdd m (.tup i) (.tup j) S Q ↔ i.length + j.length ≤ sizeLine ∧ Q (.tup (i ++ j)) S := Iff.rfl
theorem z_add_lst {i j : List D} {m : Bool} {S : MS} {Q : KV2} : wAdd m (.lst i) (.lst j) S Q ↔ i.length + j.length ≤ sizeLine ∧ newL m (i ++ j) S Q := Iff.rfl
theorem z_add_str {i j : Str} {m : Bool} {S : MS} {Q : KV2} : wAdd m (.str i) (.str j) S Q ↔ i.length + j.length ≤ sizeLine ∧ Q (.str (i ++ j)) S := Iff.rfl
theorem z_mul_int {i j : Int} {m : Bool} {S : MS} {Q : KV2} : wMul m (.int i) (.int j) S Q ↔ CMul i j ∧ Q (.int (i * j)) S := Iff.rfl
theorem z_mul_tup {xs : List D} {k : Int} {m : Bool} {S : MS} {Q : KV2} : wMul m (.tup xs) (.int k) S Q ↔ (1 ≤ k ∧ k ≤ 1000 ∧ xs.length ≤ 1000) ∧ Q (.tup (List.replicate k.toNat xs).flatten) S := Iff.rfl
theorem z_mul_lst {xs : List D} {k : Int} {m : Bool} {S : MS} {Q : KV2} : wMul m (.lst xs) (.int k) S Q ↔ (-(2 ^ 63) ≤ k ∧ k < 2 ^ 63 ∧ xs.length * k.toNat ≤ sizeLine) ∧ newL m (List.replicate k.toNat xs).flatten S Q := Iff.rfl
theorem z_ib_int {g : Int → Int → Bool} {i j : Int} {S : MS} {Q : KV2} : wIB g (.int i) (.int j) S Q ↔ Q (.bl (g i j)) S := Iff.rfl
theorem z_ii_int {C : Int → Int → Prop} {g : Int → Int → Int} {i j : Int} {S : MS} {Q : KV2} : wII C g (.int i) (.int j) S Q ↔ C i j ∧ Q (.int (g i j)) S := Iff.rfl
theorem z_neg_int {i : Int} {S : MS} {Q : KV2} : wNeg (.int i) S Q ↔ Q (.int (-i)) S := Iff.rfl
theorem z_len_lst {ds : List D} {S : MS} {Q : KV2} : cLen (.lst ds) S Q ↔ Q (.int ds.length) S := Iff.rfl
theorem z_len_tup {ds : List D} {S : MS} {Q : KV2} : cLen (.tup ds) S Q ↔ Q (.int ds.length) S := Iff.rfl
theorem z_len_str {z : Str} {S : MS} {Q : KV2} : cLen (.str z) S Q ↔ z.length ≤ sizeLine ∧ Q (.int z.length) S := Iff.rfl
theorem z_abs_int {i : Int} {S : MS} {Q : KV2} : cAbs (.int i) S Q ↔ Q (.int (if i < 0 then -i else i)) S := Iff.rfl
theorem z_int_int {i : Int} {S : MS} {Q : KV2} : cInt (.int i) S Q ↔ Q (.int i) S := Iff.rfl
theorem z_cii_int {g : Int → Int → Int} {i j : Int} {S : MS} {Q : KV2} : cII g (.int i) (.int j) S Q ↔ Q (.int (g i j)) S := Iff.rfl
theorem z_tuple_lst {ds : List D} {S : MS} {Q : KV2} : cTuple (.lst ds) S Q ↔ Q (.tup ds) S := Iff.rfl
theorem z_tuple_tup {ds : List D} {S : MS} {Q : KV2} : cTuple (.tup ds) S Q ↔ Q (.tup ds) S := Iff.rfl
theorem z_list_lst {m : Bool} {ds : List D} {S : MS} {Q : KV2} : cList m (.lst ds) S Q ↔ newL m ds S Q := Iff.rfl
theorem z_list_tup {m : Bool} {ds : List D} {S : MS} {Q : KV2} : cList m (.tup ds) S Q ↔ newL m ds S Q := Iff.rfl
theorem z_cut_lst {m : Bool} {lo hi : Option Int} {ds : List D} {S : MS} {Q : KV2} : wCut m lo hi (.lst ds) S Q ↔ newL m (cutD ds lo hi) S Q := Iff.rfl
theorem z_cut_tup {m : Bool} {lo hi : Option Int} {ds : List D} {S : MS} {Q : KV2} : wCut m lo hi (.tup ds) S Q ↔ Q (.tup (cutD ds lo hi)) S := Iff.rfl
theorem z_rev_lst {m : Bool} {ds : List D} {S : MS} {Q : KV2} : cRev m (.lst ds) S Q ↔ newL m ds.reverse S Q := Iff.rfl
theorem z_rev_tup {m : Bool} {ds : List D} {S : MS} {Q : KV2} : cRev m (.tup ds) S Q ↔ Q (.tup ds.reverse) S := Iff.rfl
theorem z_isN_ {x : D} {S : MS} {Q : KV2} : wIsN x .non S Q ↔ Q (.bl (isNon x)) S := by cases x <;> exact Iff.rfl
theorem z_notN_ {x : D} {S : MS} {Q : KV2} : wNotN x .non S Q ↔ Q (.bl (!isNon x)) S := by cases x <;> exact Iff.rfl
theorem z_isB_ {a b : Bool} {S : MS} {Q : KV2} : wIsB (.bl a) (.bl b) S Q ↔ Q (.bl (decide (a = b))) S := Iff.rfl
theorem z_notB_ {a b : Bool} {S : MS} {Q : KV2} : wNotB (.bl a) (.bl b) S Q ↔ Q (.bl (!decide (a = b))) S := Iff.rfl
theorem z_w1_ {f : D → MS → KV2 → Prop} {d : D} {S : MS} {Q : KV2} : w1 f [d] S Q ↔ f (rd S d) S Q := Iff.rfl
theorem z_w2_ {f : D → D → MS → KV2 → Prop} {d e : D} {S : MS} {Q : KV2} : w2 f [d, e] S Q ↔ f (rd S d) (rd S e) S Q := Iff.rfl
theorem z_in_lst {neg : Bool} {x : D} {ds : List D} {S : MS} {Q : KV2} : wIn neg x (.lst ds) S Q ↔ flatD x = true ∧ ds.all flatD = true ∧ Q (.bl (if neg then !inD x ds else inD x ds)) S := by cases x <;> exact Iff.rfl
theorem z_in_tup {neg : Bool} {x : D} {ds : List D} {S : MS} {Q : KV2} : wIn neg x (.tup ds) S Q ↔ flatD x = true ∧ ds.all flatD = true ∧ Q (.bl (if neg then !inD x ds else inD x ds)) S := by cases x <;> exact Iff.rfl
theorem z_isK_int_int {i : Int} : isK .int (.int i) = true := rfl
theorem z_isK_int_bl {i : Bool} : isK .int (.bl i) = true := rfl
theorem z_isK_int_str {i : Str} : isK .int (.str i) = false := rfl
theorem z_isK_int_tup {i : List D} : isK .int (.tup i) = false := rfl
theorem z_isK_int_lst {i : List D} : isK .int (.lst i) = false := rfl
theorem z_isK_int_dic {k : List Key} {i : List D} : isK .int (.dic k i) = false := rfl
theorem z_isK_int_non : isK .int .non = false := rfl
theorem z_isK_bool_int {i : Int} : isK .bool (.int i) = false := rfl
theorem z_isK_bool_bl {i : Bool} : isK .bool (.bl i) = true := rfl
theorem z_isK_bool_str {i : Str} : isK .bool (.str i) = false := rfl
theorem z_isK_bool_tup {i : List D} : isK .bool (.tup i) = false := rfl
theorem z_isK_bool_lst {i : List D} : isK .bool (.lst i) = false := rfl
theorem z_isK_bool_dic {k : List Key} {i : List D} : isK .bool (.dic k i) = false := rfl
theorem z_isK_bool_non : isK .bool .non = false := rfl
theorem z_isK_str_int {i : Int} : isK .str (.int i) = false := rfl
theorem z_isK_str_bl {i : Bool} : isK .str (.bl i) = false := rfl
theorem z_isK_str_str {i : Str} : isK .str (.str i) = true := rfl
theorem z_isK_str_tup {i : List D} : isK .str (.tup i) = false := rfl
theorem z_isK_str_lst {i : List D} : isK .str (.lst i) = false := rfl
theorem z_isK_str_dic {k : List Key} {i : List D} : isK .str (.dic k i) = false := rfl
theorem z_isK_str_non : isK .str .non = false := rfl
theorem z_isK_tuple_int {i : Int} : isK .tuple (.int i) = false := rfl
theorem z_isK_tuple_bl {i : Bool} : isK .tuple (.bl i) = false := rfl
theorem z_isK_tuple_str {i : Str} : isK .tuple (.str i) = false := rfl
theorem z_isK_tuple_tup {i : List D} : isK .tuple (.tup i) = true := rfl
theorem z_isK_tuple_lst {i : List D} : isK .tuple (.lst i) = false := rfl
theorem z_isK_tuple_dic {k : List Key} {i : List D} : isK .tuple (.dic k i) = false := rfl
theorem z_isK_tuple_non : isK .tuple .non = false := rfl
theorem z_isK_list_int {i : Int} : isK .list (.int i) = false := rfl
theorem z_isK_list_bl {i : Bool} : isK .list (.bl i) = false := rfl
theorem z_isK_list_str {i : Str} : isK .list (.str i) = false := rfl
theorem z_isK_list_tup {i : List D} : isK .list (.tup i) = false := rfl
theorem z_isK_list_lst {i : List D} : isK .list (.lst i) = true := rfl
theorem z_isK_list_dic {k : List Key} {i : List D} : isK .list (.dic k i) = false := rfl
theorem z_isK_list_non : isK .list .non = false := rfl
theorem z_isK_dict_int {i : Int} : isK .dict (.int i) = false := rfl
theorem z_isK_dict_bl {i : Bool} : isK .dict (.bl i) = false := rfl
theorem z_isK_dict_str {i : Str} : isK .dict (.str i) = false := rfl
theorem z_isK_dict_tup {i : List D} : isK .dict (.tup i) = false := rfl
theorem z_isK_dict_lst {i : List D} : isK .dict (.lst i) = false := rfl
theorem z_isK_dict_dic {k : List Key} {i : List D} : isK .dict (.dic k i) = true := rfl
theorem z_isK_dict_non : isK .dict .non = false := rfl
theorem z_items_lst {S : MS} {ds : List D} : itemsOf S (.lst ds) = some (ds, noG) := rfl
theorem z_items_tup {S : MS} {ds : List D} : itemsOf S (.tup ds) = some (ds, noG) := rfl
theorem z_items_ref {S : MS} {a : Addr} {ds : List D} (h : S a = some (.lst ds)) : itemsOf S (.ref a) = some (ds, fun S' => S' a = some (.lst ds)) := by
  simp only [itemsOf, h]
theorem z_tyd_lst {ds : List D} : TyD "list" (.lst ds) ↔ True := ⟨fun _ => trivial, fun _ => rfl⟩
theorem z_rd_set {S : MS} {a : Addr} {ds : List D} : rd (S.set a (.lst ds)) (.ref a) = .lst ds := rd_ref MS.set_same
theorem z_rd_opt {S : MS} {t c : Addr} {ds : List D} {cs : List Int} (h : c ≠ t) : rd (opened S t c ds cs) (.ref t) = .lst ds := rd_ref (by unfold opened; rw [MS.set_ne (Ne.symm h), MS.set_same])
theorem z_rd_opc {S : MS} {t c : Addr} {ds : List D} {cs : List Int} : rd (opened S t c ds cs) (.ref c) = .lst (cs.map D.int) := rd_ref MS.set_same
theorem op_t {S : MS} {t c : Addr} {ds : List D} {cs : List Int} (h : c ≠ t) : (opened S t c ds cs) t = some (.lst ds) := by unfold opened; rw [MS.set_ne (Ne.symm h), MS.set_same]
theorem op_set {S : MS} {t c : Addr} {ds es : List D} {cs : List Int} (h : c ≠ t) : (opened S t c ds cs).set t (.lst es) = opened S t c es cs := by
  unfold opened
  rw [MS.set_comm h, MS.set_set]
theorem setL_op {S : MS} {t c : Addr} {ds : List D} {cs : List Int} {k : Int} {v : D} {Q : MS → Prop} {j : Nat} (h : c ≠ t) (hj : ixN ds.length k = some j) (q : Q (opened S t c (ds.set j v) cs)) : wSetL (.ref t) (.int k) v (opened S t c ds cs) Q :=
  ⟨t, ds, k, j, rfl, rfl, op_t h, hj, by rw [op_set h]; exact q⟩
theorem setL_op_iff {S : MS} {t c : Addr} {ds : List D} {cs : List Int} {k : Int} {v : D} {Q : MS → Prop} {j : Nat} (h : c ≠ t) (hj : ixN ds.length k = some j) : wSetL (.ref t) (.int k) v (opened S t c ds cs) Q ↔ Q (opened S t c (ds.set j v) cs) := by
  refine ⟨fun ⟨a, es, k', j', e1, e2, e3, e4, q⟩ => ?_, setL_op h hj⟩
  cases e1
  cases e2
  rw [op_t h] at e3
  cases e3
  rw [hj] at e4
  cases e4
  rw [op_set h] at q
  exact q
theorem z_app_iff {S : MS} {a : Addr} {ds : List D} {d : D} {Q : KV2} (h : S a = some (.lst ds)) : wAppend (.ref a) [d] S Q ↔ ds.length < sizeLine ∧ Q .non (S.set a (.lst (ds ++ [d]))) := by
  refine ⟨fun ⟨b, es, x, e1, e2, e3, q⟩ => ?_, fun q => ⟨a, ds, d, rfl, rfl, h, q⟩⟩
  cases e1
  cases e2
  rw [h] at e3
  cases e3
  exact q
theorem cutD_to {xs : List D} {k : Int} (h : 0 ≤ k) : cutD xs none (some k) = xs.take k.toNat := by
  simp only [cutD, HT.sIx]
  rw [if_neg (by omega), List.drop_zero, Nat.sub_zero, Nat.min_def]
  by_cases h1 : k.toNat ≤ xs.length
  · rw [if_pos h1]
  · rw [if_neg h1, List.take_of_length_le (Nat.le_refl _), List.take_of_length_le (by omega)]
theorem cutD_from {xs : List D} {k : Int} (h : 0 ≤ k) : cutD xs (some k) none = xs.drop k.toNat := by
  simp only [cutD, HT.sIx]
  rw [if_neg (by omega), Nat.min_def]
  by_cases h1 : k.toNat ≤ xs.length
  · rw [if_pos h1, List.take_of_length_le (by rw [List.length_drop]; exact Nat.le_refl _)]
  · rw [if_neg h1, List.drop_length, List.drop_eq_nil_of_le (by omega)]
    simp
theorem cutD_init {xs : List D} : cutD xs none (some (-1)) = xs.dropLast := by
  simp only [cutD, HT.sIx]
  rw [if_pos (by decide), List.drop_zero, Nat.sub_zero, List.dropLast_eq_take]
  congr 1
  omega
theorem pus_take {xs : List D} (n : Nat) (h : pus xs = true) : pus (xs.take n) = true := pus_iff.mpr fun d hd => pus_mem h (List.mem_of_mem_take hd)
theorem pus_drop {xs : List D} (n : Nat) (h : pus xs = true) : pus (xs.drop n) = true := pus_iff.mpr fun d hd => pus_mem h (List.mem_of_mem_drop hd)
theorem pus_cut {xs : List D} {lo hi : Option Int} (h : pus xs = true) : pus (cutD xs lo hi) = true := pus_take _ (pus_drop _ h)
theorem pus_rev {xs : List D} (h : pus xs = true) : pus xs.reverse = true := pus_iff.mpr fun d hd => pus_mem h (List.mem_reverse.mp hd)
theorem pus_rep {xs : List D} {n : Nat} (h : pus xs = true) : pus (List.replicate n xs).flatten = true := pus_iff.mpr fun d hd => by
  obtain ⟨l, hl, hd⟩ := List.mem_flatten.mp hd
  rw [List.eq_of_mem_replicate hl] at hd
  exact pus_mem h hd
theorem pus_app {xs ys : List D} (h : pus xs = true) (g : pus ys = true) : pus (xs ++ ys) = true := by rw [pus_append, h, g]; rfl
theorem cutD_len (xs : List D) (lo hi : Option Int) : (cutD xs lo hi).length ≤ xs.length := by
  unfold cutD
  rw [List.length_take, List.length_drop]
  omega
theorem rep_len {α : Type} (n : Nat) (xs : List α) : (List.replicate n xs).flatten.length = n * xs.length := by simp
theorem rd_set_ne {S : MS} {a b : Addr} {m : MO} (h : a ≠ b) : rd (S.set b m) (.ref a) = rd S (.ref a) := by
  show rdM a ((S.set b m) a) = rdM a (S a)
  rw [MS.set_ne h]
theorem getD_map_int {l : List Int} {i : Nat} (h : i < l.length) : (l.map D.int).getD i .non = .int (l.getD i 0) := by
  rw [List.getD_eq_getElem?_getD, List.getD_eq_getElem?_getD, List.getElem?_map, List.getElem?_eq_getElem h]
  rfl
theorem map_eraseIdx {α β : Type} (f : α → β) (l : List α) (i : Nat) : (l.map f).eraseIdx i = (l.eraseIdx i).map f := by
  rw [List.eraseIdx_eq_take_drop_succ, List.eraseIdx_eq_take_drop_succ, List.map_append, List.map_take, List.map_drop]
theorem perm_erase {α : Type} {l : List α} {i : Nat} (h : i < l.length) : ([l[i]] ++ l.eraseIdx i).Perm l := by
  rw [List.eraseIdx_eq_take_drop_succ]
  refine (List.perm_middle (l₁ := l.take i)).symm.trans ?_
  rw [← List.drop_eq_getElem_cons h, List.take_append_drop]
theorem perm_of_nodup {is : List Int} {n : Nat} (h1 : is.Nodup) (h2 : ∀ l ∈ is, 0 ≤ l ∧ l < n) (h3 : is.length = n) : is.Perm ((List.range n).map fun (i : Nat) => (i : Int)) := by
  have hr : ((List.range n).map fun (i : Nat) => (i : Int)).Nodup := by
    rw [List.nodup_iff_pairwise_ne, List.pairwise_map]
    exact List.Pairwise.imp (fun h => by omega) List.pairwise_lt_range
  have hm : ∀ a : Int, a ∈ ((List.range n).map fun (i : Nat) => (i : Int)) ↔ 0 ≤ a ∧ a < n := fun a => by
    constructor
    · intro h
      obtain ⟨i, hi, rfl⟩ := List.mem_map.mp h
      have := List.mem_range.mp hi
      omega
    · intro h
      exact List.mem_map.mpr ⟨a.toNat, List.mem_range.mpr (by omega), by omega⟩
  refine (List.perm_ext_iff_of_nodup h1 hr).mpr fun a => ⟨fun h => (hm a).mpr (h2 a h), fun h => ?_⟩
  refine Classical.byContradiction fun hn => ?_
  have h4 : (a :: is).Nodup := List.nodup_cons.mpr ⟨hn, h1⟩
  have h5 := List.Nodup.length_le_of_subset h4 (l₂ := (List.range n).map fun (i : Nat) => (i : Int)) fun x hx => by
    rcases List.mem_cons.mp hx with e | e
    · rw [e]; exact h
    · exact (hm x).mpr (h2 x e)
  rw [List.length_cons, List.length_map, List.length_range, h3] at h5
  omega
theorem inD_ints {l : Int} {is : List Int} : inD (.int l) (is.map D.int) = decide (l ∈ is) := by
  unfold inD
  rw [List.any_map]
  induction is with
  | nil => rfl
  | cons a is ih =>
    rw [List.any_cons, ih]
    show (eqD (.int a) (.int l) || decide (l ∈ is)) = _
    rw [eqD_int]
    by_cases e : a = l
    · simp [e]
    · simp [e, Ne.symm e, eq_comm]
theorem flat_ints {is : List Int} : (is.map D.int).all flatD = true := by
  rw [List.all_map]
  exact List.all_eq_true.mpr fun _ _ => rfl
theorem flat_int {i : Int} : flatD (.int i) = true := rfl
theorem rangeD_mem {lo : Int} {n : Nat} {d : D} (h : d ∈ rangeD lo n) : ∃ i : Nat, i < n ∧ d = .int (lo + (i : Nat)) := by
  obtain ⟨i, hi, rfl⟩ := List.mem_map.mp h
  exact ⟨i, List.mem_range.mp hi, rfl⟩
theorem pus_repl {d : D} {n : Nat} (h : pu d = true) : pus (List.replicate n d) = true := pus_iff.mpr fun x hx => by
  rw [List.eq_of_mem_replicate hx]
  exact h
end DL
/-! DL13: the head: what the top leaves, no list among it; the law's promise. -/
namespace DL
open PySem PySem.Spec PyProof.Rows L2
def frN (g : Addr → Option Obj) (as : List Addr) : PySem.W.Frag := (He.frG g as).filter fun p => !(p.2.cls == Value.type "list")
theorem lookup_mem {α β : Type} [BEq α] [LawfulBEq α] {b : α} {o : β} : ∀ {l : List (α × β)}, l.lookup b = some o → (b, o) ∈ l
  | [], h => by cases h
  | (a, c) :: l, h => by
    rw [List.lookup_cons] at h
    by_cases e : (b == a) = true
    · rw [e] at h
      cases h
      rw [eq_of_beq e]
      exact List.mem_cons_self
    · rw [Bool.eq_false_iff.mpr e] at h
      exact List.mem_cons_of_mem _ (lookup_mem h)
theorem frN_in {g : Addr → Option Obj} {as : List Addr} {b : Addr} {o : Obj} (h : (frN g as).lookup b = some o) : g b = some o ∧ (o.cls == Value.type "list") = false := by
  have m := lookup_mem h
  obtain ⟨m1, m2⟩ := List.mem_filter.mp m
  obtain ⟨a, _, e⟩ := List.mem_filterMap.mp m1
  cases hg : g a with
  | none => rw [hg] at e; cases e
  | some u =>
    rw [hg] at e
    cases e
    exact ⟨hg, by simpa using m2⟩
def NoL (K : PySem.W.Frag) : Prop := ∀ b o, K.lookup b = some o → (o.cls == Value.type "list") = false
def obsN (n : Nat) (fa : List He.Fa) (fn : List He.DefD) (g : Addr → Option Obj) : He.AlD := He.obsD fa fn (frN g (He.asD g n))
def hookN (n : Nat) (fa : List He.Fa) (fn : List He.DefD) : PySem.W.Hook where
  α := He.AlD
  obs := fun s => obsN n fa fn s.heap.get?
  val := fun _ => He.valD fn
  says := fun _ h => ∃ K : PySem.W.Frag, K.In h ∧ He.SaysD fa fn K ∧ NoL K
  of := fun _ _ e => ⟨_, fun b o h => (frN_in h).1, e, fun b o h => (frN_in h).2⟩
  keeps := fun _ _ _ ⟨K, hK, c⟩ k => ⟨K, PySem.W.Frag.In.keeps hK k, c⟩
theorem obsN_eq {n : Nat} {fa : List He.Fa} {fn : List He.DefD} {g : Addr → Option Obj} {s : Shared} (h : ∀ a, g a = s.heap.get? a) : obsN n fa fn g = (hookN n fa fn).obs s := by
  have e : g = s.heap.get? := funext h
  rw [e] <;> rfl
/-- the law's promise: any script in, True out -/
def lawSp (n : Nat) : DSp := fun ds S Q _ => ∃ ns : List Int, ds = [.lst (ns.map D.int)] ∧ ns.length ≤ n ∧ (∀ a, S a = none) ∧ Q (.bl true) S
theorem law_sp {K : PySem.W.Frag} {n : Nat} {sp : DSp} (hsp : ∀ ds S Q E, lawSp n ds S Q E → sp ds S Q E) (nl : NoL K) {H : Hp} {a : Addr} {ns : List Int} (hl : ns.length ≤ n) (hS : SqL K H a (ns.map V.int)) :
    spD K sp [.ref a] H (fun v _ => v = .bl true) fun _ _ _ => False := by
  have hr : Rd H a (.lst (ns.map V.int)) := by
    rcases hS with h | ⟨o, its, k, lk, hc, _⟩
    · exact h
    · have := nl a o lk
      rw [hc] at this
      exact absurd this (by decide)
  refine ⟨[.lst (ns.map D.int)], H, fun _ => none, fun d _ => d = .bl true, fun _ _ _ => False, ⟨fun _ _ h => h, (by intro a m h; cases h), (by intro a b m n h; cases h)⟩, .cons (.lst hr (.of_ints ns)) .nil, hsp _ _ _ _ ⟨ns, rfl, hl, fun _ => rfl, rfl⟩, ?_, fun _ _ _ _ _ _ _ _ _ _ h => h.elim⟩
  rintro v H' d F' S' _ _ r rfl
  cases r
  rfl
theorem walk_law {l : PySem.W.OpenLaw} {n m k : Nat} {q : Program} {loose : List Str} {XP : (Str → Option Value) → Heap → Prop} {d : DefRec} {fa : List He.Fa} {fn : List He.DefD} {sp : DSp} (hn : l.most = some n) (hn2 : n ≤ sizeLine) (hdf : d.params.defaults = []) (hr : Room k callerA) (hd : d.name = ("law" : Str))
    (hsp : ∀ ds S Q E, lawSp n ds S Q E → sp ds S Q E)
    (D : ∀ (w : World) (K : PySem.W.Frag) (mg : Str → Option Value) (h : Heap), K.In h → h.Ns mainGlobals mg → He.SaysD fa fn K → ∃ f fd, mg "law" = some (.ref f) ∧ (∀ (s : Shared) (u : Value), BindsTo s fd ⟨[u], []⟩ [("script", u)]) ∧ ∀ base : Heap, FnG l.prog w K mg base CX0 k f fd ["script"] (spD K sp)) :
    PySem.W.WalkO q loose XP (hookN m fa fn).says l.row.toRowW d [] (fun f vs => PySem.call f vs) := by
  refine walk_ofG (n := n) (k := k) (x := "script") (CX := L2.CX0) hn hn2 hdf hr ?_ (fun _ _ _ _ z => z)
  intro w mg fa' h Y G hmg
  obtain ⟨K, KX, c, nl⟩ := Y
  rw [hd] at hmg
  obtain ⟨f, fd, hm, hb, hF⟩ := D w K mg h KX G c
  rw [hm] at hmg
  cases hmg
  exact ⟨K, fd, spD K sp, KX, hb, fun H a ns hl _ hS => law_sp hsp nl hl hS, fun base _ _ => hF base⟩
end DL
/-! DL14: instances of own classes: attributes, methods, making. -/
namespace DL
open PySem PySem.Spec PyProof.Rows L2
def fldD (f : Str) : List Str → List D → Option D
  | n :: ns, d :: ds => if n = f then some d else fldD f ns ds
  | _, _ => none
def putD (f : Str) (v : D) : List Str → List D → List Str × List D
  | n :: ns, d :: ds => if n = f then (n :: ns, v :: ds) else (n :: (putD f v ns ds).1, d :: (putD f v ns ds).2)
  | _, _ => ([f], [v])
section
variable {K : PySem.W.Frag} {F F' H H' : Hp} {S : MS}
theorem reps_fld {f : Str} : ∀ {fs : List (Str × V)} {ds : List D} {d : D}, Reps K F ds (fs.map (·.2)) → fldD f (fs.map (·.1)) ds = some d → ∃ v, fs.lookup f = some v ∧ Rep K F d v
  | [], ds, d, r, e => by
    cases ds <;> simp [fldD] at e
  | (n, v) :: fs, [], d, r, e => by simp [fldD] at e
  | (n, v) :: fs, x :: ds, d, r, e => by
    cases r with
    | cons r1 r2 =>
      simp only [List.map_cons, fldD] at e
      by_cases h : n = f
      · rw [if_pos h] at e
        cases e
        refine ⟨v, ?_, r1⟩
        rw [List.lookup_cons, h, beq_self_eq_true]
      · rw [if_neg h] at e
        obtain ⟨u, h1, h2⟩ := reps_fld r2 e
        refine ⟨u, ?_, h2⟩
        rw [List.lookup_cons, show (f == n) = false from beq_eq_false_iff_ne.mpr (Ne.symm h)]
        exact h1
theorem reps_nofld {f : Str} : ∀ {fs : List (Str × V)}, f ∉ fs.map (·.1) → fs.lookup f = none
  | [], _ => rfl
  | (n, v) :: fs, h => by
    have h1 : f ≠ n := fun e => h (by rw [e]; exact List.mem_cons_self)
    rw [List.lookup_cons, show (f == n) = false from beq_eq_false_iff_ne.mpr h1]
    exact reps_nofld fun m => h (List.mem_cons_of_mem _ m)
theorem reps_put {f : Str} {v : V} {y : D} (ry : Rep K F y v) : ∀ {fs : List (Str × V)} {ds : List D}, Reps K F ds (fs.map (·.2)) → (putF f v fs).map (·.1) = (putD f y (fs.map (·.1)) ds).1 ∧ Reps K F (putD f y (fs.map (·.1)) ds).2 ((putF f v fs).map (·.2))
  | [], ds, r => by
    cases r
    exact ⟨rfl, .cons ry .nil⟩
  | (n, x) :: fs, ds, r => by
    cases r with
    | @cons d _ ds' _ r1 r2 =>
      simp only [List.map_cons, putF, putD]
      by_cases h : n = f
      · rw [if_pos h, if_pos h]
        exact ⟨rfl, .cons ry r2⟩
      · rw [if_neg h, if_neg h]
        obtain ⟨h1, h2⟩ := reps_put ry r2
        exact ⟨by rw [List.map_cons, h1], .cons r1 h2⟩
/-- an instance that changes no more -/
theorem FS.freezeI (x : FS K F S H) {p : Addr} {C : Str} {ns : List Str} {ds : List D} (hp : S p = some (.ins C ns ds)) :
    ∃ dx fs, H p = some (.ins (He.ga K C) dx fs) ∧ fs.map (·.1) = ns ∧ Reps K F ds (fs.map (·.2)) ∧ FS K (upd F p (.ins (He.ga K C) dx fs)) (S.del p) H := by
  obtain ⟨fp, dx, fs, e, en, r⟩ := x.st p _ hp
  refine ⟨dx, fs, e, en, r, fun a u h => ?_, fun a m h => ?_, fun a b u v h1 h2 => x.one a b u v (Sub.del a u h1) (Sub.del b v h2)⟩
  · by_cases ha : a = p
    · subst ha
      rw [upd_same] at h
      rw [e]
      exact h
    · rw [upd_ne ha] at h
      exact x.fr a u h
  · have h0 := Sub.del a m h
    have ha : a ≠ p := fun z => by
      subst z
      simp only [MS.del, if_pos] at h
      cases h
    obtain ⟨f, k⟩ := x.st a m h0
    have ne : ∀ c, S c = none → c ≠ p := fun c z q => by
      rw [q, hp] at z
      cases z
    refine ⟨by rw [upd_ne ha]; exact f, mok_move k (ExF.new fp) rfl fun c h1 h2 h3 h4 => ⟨by rw [upd_ne (ne c h2)]; exact h1, ?_, rfl⟩⟩
    simp only [MS.del, if_neg (ne c h2)]
    exact h2
end
section
variable {X : Cx} {L : Lk} {K : PySem.W.Frag} {o e : Expr} {es : List Expr} {to ta : TE} {wo wa : DL.WE} {t : TA} {wr : WA} {pos apos p : Pos}
/-! ### e.f -/
def wFld (C f : Str) (wa : DL.WE) : DL.WE := fun ρ S Q => wa ρ S fun x ρ1 S1 => ∃ ns ds d, rd S1 x = .obj C ns ds ∧ fldD f ns ds = some d ∧ Q d ρ1 S1
theorem re_fld {C f : Str} (c : Cls K (He.ga K C)) (n : NoAttr K (He.ga K C) f) (h : RE K L ta wa) : RE K L (tFld K ta f) (wFld C f wa) := by
  intro F ρ S σ H Q R m q k
  refine h F ρ S σ H _ _ m q fun x H1 dx ρ1 S1 F1 e1 m1 r1 ⟨ns, ds, d, hx, hd, q1⟩ => ?_
  have rt := rd_ok m1.fs r1
  rw [hx] at rt
  obtain ⟨a, da, fs, rfl, h1, h2, h3⟩ := rt
  subst h2
  obtain ⟨v, hv, rv⟩ := reps_fld h3 hd
  exact ⟨a, _, da, fs, v, rfl, h1, c, n, hv, k v H1 d ρ1 S1 F1 e1 m1 rv q1⟩
theorem de_fld (K : PySem.W.Frag) {C f : Str} (c : Cls K (He.ga K C)) (n : NoAttr K (He.ga K C) f) (h : DE X L e ta wa) (hb : attributeBase e f X.env (eval e X.env) = eval e X.env := by rfl) (hK : X.K = K := by rfl) :
    DE X L (.Attribute e f pos) (tFld K ta f) (wFld C f wa) := by
  subst hK
  exact ⟨pe_fld h.pe hb, re_fld c n h.re⟩
/-! ### e.f = v -/
def gFld (K : PySem.W.Frag) (to : TE) (f : Str) : TG := fun v σ H Q => to σ H fun x H1 => ∃ a C dx fs, x = .ref a ∧ H1 a = some (.ins C dx fs) ∧ Cls K C ∧ NoAttr K C f ∧ fs.length < 1000 ∧ Q σ (upd H1 a (.ins C dx (putF f v fs)))
theorem pg_fld {f : Str} (ho : PE X o to) (ha : ∀ v, assign (.Attribute o f pos) X.env v = (do
      let ov ← holding [v] (eval o X.env)
      standAt pos.atName
      holding [v, ov] (setAttr ov f v)
      release [v, ov] []) := by intro _; rfl) : PG X (.Attribute o f pos) (gFld X.K to f) := by
  refine ⟨fun pins s σ H v u Q I r h => ?_⟩
  rw [ha]
  refine wpAny_bind (wpAny_holding (thn (ho.run pins s σ H _ I h) fun ov s1 ⟨x, H1, I1, r1, a, C, dx, fs, ex, ea, c, n, l, q1⟩ => ?_))
  subst ex
  obtain rfl : ov = Value.ref a := r1
  refine wpAny_bind (wpAny_standAt (wpAny_bind (wpAny_holding (setattr_ok I1 ea c n l r fun s3 I3 => ?_))))
  exact wpAny_release ⟨σ, _, I3, q1⟩
def wgFld (C f : Str) (wo : DL.WE) : WG := fun d ρ S Q => wo ρ S fun x ρ1 S1 => ∃ a ns ds, x = .ref a ∧ S1 a = some (.ins C ns ds) ∧ ns.length < 1000 ∧ Q ρ1 (S1.set a (.ins C (putD f d ns ds).1 (putD f d ns ds).2))
theorem rg_fld {C f : Str} (c : Cls K (He.ga K C)) (n : NoAttr K (He.ga K C) f) (h : RE K L to wo) : RG K L [] (gFld K to f) (wgFld C f wo) := by
  intro F ρ S σ H d v Q R m r q k
  refine h F ρ S σ H _ _ m q fun x H1 dx ρ1 S1 F1 e1 m1 r1 ⟨a, ns, ds, hx, hs, hl, q1⟩ => ?_
  subst hx
  cases r1
  obtain ⟨_, da, fs, h1, h2, h3⟩ := m1.fs.st a _ hs
  subst h2
  obtain ⟨p1, p2⟩ := reps_put (f := f) (r.up e1) h3
  have fs3 := m1.fs.write (n := .ins C (putD f d (fs.map (·.1)) ds).1 (putD f d (fs.map (·.1)) ds).2) (o := .ins (He.ga K C) da (putF f v fs)) hs rfl ⟨da, putF f v fs, upd_same, p1, p2⟩
  exact ⟨a, _, da, fs, rfl, h1, c, n, by rw [List.length_map] at hl; exact hl, k F1 ρ1 _ σ _ e1 (m1.step (ExF.refl F1) fs3) rfl q1⟩
theorem dg_fld (K : PySem.W.Frag) {vs : List Nat} {C f : Str} (c : Cls K (He.ga K C)) (n : NoAttr K (He.ga K C) f) (h : DE X L o to wo) (ha : ∀ v, assign (.Attribute o f pos) X.env v = (do
      let ov ← holding [v] (eval o X.env)
      standAt pos.atName
      holding [v, ov] (setAttr ov f v)
      release [v, ov] []) := by intro _; rfl) (hK : X.K = K := by rfl) : DG X L vs (.Attribute o f pos) (gFld K to f) (wgFld C f wo) := by
  subst hK
  refine ⟨pg_fld h.pe ha, fun F ρ S σ H d v Q R m r q k => rg_fld c n h.re F ρ S σ H d v Q R m r q fun F' ρ' S' σ' H' e1 m1 w1 q1 => k F' ρ' S' σ' H' e1 m1 ?_ q1⟩
  have w2 : σ' = σ := w1
  rw [w2]
/-! ### methods -/
structure DefM (P : Program) (w : World) (K : PySem.W.Frag) (mg : Str → Option Value) (base : Heap) (CX : CXT) (k : Nat) (f : Addr) (ps : List Str) (sp : DSp) : Prop where
  ex : ∃ fd, FnG P w K mg base CX k f fd ps (spD K sp) ∧ Binds K fd ps []
variable {CX : CXT} {k : Nat} {f : Addr} {ps : List Str} {sp : DSp} {C m x : Str}
def wMeth (C m : Str) (sp : DSp) (wo : DL.WE) (wr : WA) : DL.WE := fun ρ S Q => wo ρ S fun x ρ1 S1 => (∃ ns ds, rd S1 x = .obj C ns ds ∧ m ∉ ns) ∧ wr ρ1 S1 fun xs ρ2 S2 => sp (x :: xs) S2 (fun d S3 => Q d ρ2 S3) noX
theorem re_meth {E : XK} (ho : RE K L to wo) (hr : RA K L t wr) : RE K L (tMeth (He.ga K C) m (spD K sp) [] E to t) (wMeth C m sp wo wr) := by
  intro F ρ S σ H Q R mt q kk
  refine ho F ρ S σ H _ _ mt q fun x H1 dx ρ1 S1 F1 e1 m1 r1 ⟨⟨ns, ds, hx, hn⟩, q1⟩ => ?_
  have rt := rd_ok m1.fs r1
  rw [hx] at rt
  obtain ⟨a, da, fs, rfl, h1, h2, h3⟩ := rt
  subst h2
  refine ⟨a, da, fs, rfl, h1, reps_nofld hn, ?_⟩
  refine hr F1 ρ1 S1 σ H1 _ _ m1 q1 fun vs H2 xs ρ2 S2 F2 e2 m2 r2 q2 => ?_
  rw [List.append_nil]
  exact ⟨_, F2, S2, _, _, m2.fs, .cons (r1.up e2) r2, q2, fun v H' d F' S' e x r q => kk v H' d ρ2 S' F' ((e1.trans e2).trans e) (m2.step e x) r q, fun _ _ _ _ _ _ _ _ _ _ z => z.elim⟩
theorem de_meth {pl : Sem Bool} (c : Cls K (He.ga K C)) (hm : Meth K (He.ga K C) m f) (D : DefM X.prog X.w K X.mg X.base CX k f ps sp) (hr : RoomG k X.A) (hx : Passes CX X E0) (ho : DE X L o to wo) (ha : DA X L (e :: es) t wr)
    (hst : starEach (e :: es) X.env = (false, eval e X.env) :: starEach es X.env := by rfl) (hpl : (backTo pos (starEach es X.env)).any (·.1) = false := by rfl)
    (ht : eval (.Call (.Attribute o m apos) (e :: es) [] pos) X.env = (do
      let ov ← eval o X.env
      standAt apos.atName
      let (f, first) ← holding [ov] (getMethod ov m pl)
      callWith pos f first (backTo pos (starEach (e :: es) X.env)) (backToKw pos (keywordEach [] X.env))) := by rfl) (hK : X.K = K := by rfl) :
    DE X L (.Call (.Attribute o m apos) (e :: es) [] pos) (tMeth (He.ga K C) m (spD K sp) [] E0 to t) (wMeth C m sp wo wr) := by
  subst hK
  obtain ⟨fd, F, hb⟩ := D.ex
  exact ⟨pe_methG ho.pe c hm F hr.r hr.g hb .nil hx ha.pa hst hpl ht, re_meth ho.re ha.ra⟩
theorem de_meth0 {pl : Sem Bool} (c : Cls K (He.ga K C)) (hm : Meth K (He.ga K C) m f) (D : DefM X.prog X.w K X.mg X.base CX k f ps sp) (hr : RoomG k X.A) (hx : Passes CX X E0) (ho : DE X L o to wo)
    (ht : eval (.Call (.Attribute o m apos) [] [] pos) X.env = (do
      let ov ← eval o X.env
      standAt apos.atName
      let (f, first) ← holding [ov] (getMethod ov m pl)
      callWith pos f first (backTo pos (starEach [] X.env)) (backToKw pos (keywordEach [] X.env))) := by rfl) (hK : X.K = K := by rfl) :
    DE X L (.Call (.Attribute o m apos) [] [] pos) (tMeth (He.ga K C) m (spD K sp) [] E0 to tNil) (wMeth C m sp wo wNil) := by
  subst hK
  obtain ⟨fd, F, hb⟩ := D.ex
  exact ⟨pe_meth0G ho.pe c hm F hr.r hr.g hb .nil hx ht, re_meth ho.re ra_nil⟩
/-! ### making -/
/-- what is made: kept as it is | changing no more -/
def endI (mu : Bool) (C : Str) (a : Addr) (S : MS) (Q : KV2) : Prop := if mu = true then Q (.ref a) S else ∃ ns ds, S a = some (.ins C ns ds) ∧ Q (.obj C ns ds) (S.del a)
def wMake (mu : Bool) (C : Str) (sp : DSp) (wr : WA) (ex : DXC) : DL.WE := fun ρ S Q => wr ρ S fun xs ρ1 S1 => ∀ a, S1 a = none → sp (.ref a :: xs) (S1.set a (.ins C [] [])) (fun v S2 => v = .non ∧ endI mu C a S2 fun d S3 => Q d ρ1 S3) ex
theorem re_make {E : XK} {ex : DXC} (mu : Bool) (hE : ∀ F ρ S σ H, Mt K L F ρ S σ H → ∀ (F' : Hp) (S' : MS) (H' : Hp) (e : Value) (d : Option Addr) (C : Str) (xs : List D), ExF F F' → FS K F' S' H' → ExRep K F' H' e d C xs → ex C xs S' → E e d H') (hr : RA K L t wr) : RE K L (tMake (He.ga K C) (spD K sp) [] E t) (wMake mu C sp wr ex) := by
  intro F ρ S σ H Q R mt q kk
  refine hr F ρ S σ H _ _ mt q fun vs H1 xs ρ1 S1 F1 e1 m1 r1 q1 => ?_
  intro x dx hx hdx ne
  rw [List.append_nil]
  have hx' : (upd H1 dx (.own x)) x = none := by rw [upd_ne (Ne.symm ne)]; exact hx
  have fs2 := (m1.fs.drop (o := .own x) hdx).alloc (o := .ins (He.ga K C) dx []) (m := .ins C [] []) hx' rfl ⟨dx, [], upd_same, rfl, .nil⟩
  obtain ⟨sx, _⟩ := m1.fs.notS hx
  refine ⟨_, F1, _, _, _, fs2, .cons (.ref x) r1, q1 x sx, ?_, fun e d H' C' xs' F' S' ex' x' er z => hE F1 ρ1 S1 σ H1 m1 F' S' H' e d C' xs' ex' x' er z⟩
  rintro v H' d F' S' ex' x' r ⟨rfl, q2⟩
  cases r
  refine ⟨rfl, ?_⟩
  unfold endI at q2
  cases mu with
  | true =>
    rw [if_pos rfl] at q2
    exact kk _ H' _ ρ1 S' F' (e1.trans ex') (m1.step ex' x') (.ref x) q2
  | false =>
    rw [if_neg Bool.false_ne_true] at q2
    obtain ⟨ns, ds, hs, q3⟩ := q2
    obtain ⟨da, fs, h1, h2, h3, h4⟩ := x'.freezeI hs
    have fx := (x'.st x _ hs).1
    exact kk _ H' _ ρ1 _ _ ((e1.trans ex').trans (ExF.new fx)) (m1.step (ex'.trans (ExF.new fx)) h4) (.obj upd_same h2 (h3.up (ExF.new fx))) q3
theorem de_make (mu : Bool) (M : Mk K (He.ga K C) f) (D : DefM X.prog X.w K X.mg X.base CX k f ps sp) (hr : RoomG (k + 1) X.A) (hx : Passes CX X E0) (hg : Gl X C) (hm : X.mg C = some (.ref (He.ga K C))) (ha : DA X L (e :: es) t wr)
    (hdb : (C == ("__debug__" : Str)) = false := by decide) (he : starEach (e :: es) X.env = (false, eval e X.env) :: starEach es X.env := by rfl) (hpl : (backTo pos (starEach es X.env)).any (·.1) = false := by rfl) (hK : X.K = K := by rfl) :
    DE X L (.Call (.Name C p) (e :: es) [] pos) (tMake (He.ga K C) (spD K sp) [] E0 t) (wMake mu C sp wr noX) := by
  subst hK
  obtain ⟨fd, F, hb⟩ := D.ex
  exact ⟨pe_makeG M F hr.r hr.g hg hm hb .nil hx ha.pa hdb he hpl, re_make mu (fun _ _ _ _ _ _ _ _ _ _ _ _ _ _ _ _ z => z.elim) ha.ra⟩
theorem de_makeX (mu : Bool) (M : Mk K (He.ga K C) f) (D : DefM X.prog X.w K X.mg X.base CX k f ps sp) (hr : RoomG (k + 1) X.A) (hx : Passes CX X L.E) (hg : Gl X C) (hm : X.mg C = some (.ref (He.ga K C))) (ha : DA X L (e :: es) t wr)
    (hdb : (C == ("__debug__" : Str)) = false := by decide) (he : starEach (e :: es) X.env = (false, eval e X.env) :: starEach es X.env := by rfl) (hpl : (backTo pos (starEach es X.env)).any (·.1) = false := by rfl) (hK : X.K = K := by rfl) :
    DE X L (.Call (.Name C p) (e :: es) [] pos) (tMake (He.ga K C) (spD K sp) [] L.E t) (wMake mu C sp wr L.ex) := by
  subst hK
  obtain ⟨fd, F, hb⟩ := D.ex
  exact ⟨pe_makeG M F hr.r hr.g hg hm hb .nil hx ha.pa hdb he hpl, re_make mu (fun F ρ S σ H m F' S' H' e d C xs ex x er z => m.lk F' S' H' e d C xs ex x er z) ha.ra⟩
end
end DL
/-! DL15: methods of tuples, < of tuples, in among data of any depth. -/
namespace DL
open PySem PySem.Spec PyProof.Rows L2
section
variable {X : Cx} {L : Lk} {K : PySem.W.Frag} {o e : Expr} {es : List Expr} {to : TE} {wo : DL.WE} {t : TA} {wr : WA} {apos cpos : Pos} {id : String} {name : Str} {r : V → List V → Hp → VK → Prop} {wm : D → List D → MS → KV2 → Prop}
/-- t.m(..), t a tuple without a dict -/
def tBMT (K : PySem.W.Frag) (r : V → List V → Hp → VK → Prop) (to : TE) (t : TA) : TE := fun σ H Q => to σ H fun x H1 => (∃ a vs, x = .ref a ∧ TupAt K H1 a vs) ∧ t σ H1 fun xs H2 => r x xs H2 Q
theorem tupAt_is {pins : List (Addr × Obj)} {σ : L2.St} {H : Hp} {s : Shared} {a : Addr} {vs : List V} (I : Inv X pins σ H s) (h : TupAt X.K H a vs) : s.TypeIs (.ref a) "tuple" ∧ ∀ b, Value.ref a = .ref b → ∃ ob, s.heap.get? b = some ob ∧ ob.dict = none := by
  obtain ⟨its, rv, p, hz⟩ := I.tuple h.sq
  refine ⟨p.typeIs, fun b e => ?_⟩
  cases e
  rcases h with ⟨o, h, d⟩ | ⟨o, its, n, h1, h2, h3, h4, h5, d⟩
  · exact ⟨o, (I.hok a _ h).1, d⟩
  · exact ⟨o, I.kIn a o h1, d⟩
theorem pe_bmT (pa : PlainAttrs "tuple") (slot : Slot "tuple" name id) (hty : typeOf (.builtin id) = pure (.type "method_descriptor")) (hm : MtR X id r) (ho : PE X o to) (ha : PA X (e :: es) t)
    (hbase : attributeBase o name X.env (eval o X.env) = eval o X.env := by rfl)
    (hfew : ((backTo cpos (starEach (e :: es) X.env)).all (fun x => !x.1) && (backToKw cpos (keywordEach [] X.env)).all (fun x => x.1.isSome)
      && decide ((e :: es).length + ([] : List Keyword).length + (if ([] : List Keyword).isEmpty then 0 else 1) < 30)) = true := by rfl)
    (hline : (apos.endLine == cpos.line) = true := by rfl) (hs : starEach (e :: es) X.env = (false, eval e X.env) :: starEach es X.env := by rfl) (hplain : (backTo cpos (starEach es X.env)).any (·.1) = false := by rfl) :
    PE X (.Call (.Attribute o name apos) (e :: es) [] cpos) (tBMT X.K r to t) := by
  refine ⟨fun pins s σ H Q I h => ?_⟩
  refine wpAny_Call_method_late hbase hfew hline rfl (thn (ho.run pins s σ H _ I h) fun v s1 ⟨x, H1, I1, r1, ⟨a, vs, ex, ty⟩, q1⟩ => ?_)
  subst ex
  cases r1
  obtain ⟨h1, h2⟩ := tupAt_is I1 ty
  refine ⟨"tuple", id, pa, slot, hty, h1, h2, ?_⟩
  have hA := ha.run cpos pins s1 σ H1 _ I1 q1
  rw [hs] at hA ⊢
  refine Calls.callWith_builtin (by show (false || (backTo cpos (starEach es X.env)).any (·.1)) = false; rw [hplain] <;> rfl) (Calls.evalArgs_plain ?_)
  exact thn hA fun us s2 ⟨vs, H2, I2, r2, q2⟩ => hm pins s2 σ H2 (.ref a) vs (.ref a) us Q I2 rfl r2 q2
def wBMT (wm : D → List D → MS → KV2 → Prop) (wo : DL.WE) (wr : WA) : DL.WE := fun ρ S Q => wo ρ S fun x ρ1 S1 => (∃ ds, x = .tup ds) ∧ wr ρ1 S1 fun xs ρ2 S2 => wm x xs S2 fun d S3 => Q d ρ2 S3
theorem re_bmT (hr : RM K r wm) (ho : RE K L to wo) (ha : RA K L t wr) : RE K L (tBMT K r to t) (wBMT wm wo wr) := by
  intro F ρ S σ H Q R m q k
  refine ho F ρ S σ H _ _ m q fun x H1 dx ρ1 S1 F1 e1 m1 r1 ⟨⟨ds, hx⟩, q1⟩ => ?_
  subst hx
  have rr := r1
  cases r1 with
  | @tup _ a vs h1 h2 =>
    refine ⟨⟨a, vs, rfl, ?_⟩, ?_⟩
    · exact exf_ta (fun b o z => m1.fs.fr b o z) h1
    · refine ha F1 ρ1 S1 σ H1 _ _ m1 q1 fun us H2 xs ρ2 S2 F2 e2 m2 r2 q2 => ?_
      exact hr F2 S2 H2 _ _ xs us _ _ m2.fs (rr.up e2) r2 q2 fun v H' d S' F' e x r q => k v H' d ρ2 S' F' ((e1.trans e2).trans e) (m2.step e x) r q
theorem de_bmT (K : PySem.W.Frag) (pa : PlainAttrs "tuple") (slot : Slot "tuple" name id) (hty : typeOf (.builtin id) = pure (.type "method_descriptor")) (hm : MtR X id r) (hr : RM K r wm) (ho : DE X L o to wo) (ha : DA X L (e :: es) t wr)
    (hbase : attributeBase o name X.env (eval o X.env) = eval o X.env := by rfl)
    (hfew : ((backTo cpos (starEach (e :: es) X.env)).all (fun x => !x.1) && (backToKw cpos (keywordEach [] X.env)).all (fun x => x.1.isSome)
      && decide ((e :: es).length + ([] : List Keyword).length + (if ([] : List Keyword).isEmpty then 0 else 1) < 30)) = true := by rfl)
    (hline : (apos.endLine == cpos.line) = true := by rfl) (hs : starEach (e :: es) X.env = (false, eval e X.env) :: starEach es X.env := by rfl) (hplain : (backTo cpos (starEach es X.env)).any (·.1) = false := by rfl) (hK : X.K = K := by rfl) :
    DE X L (.Call (.Attribute o name apos) (e :: es) [] cpos) (tBMT K r to t) (wBMT wm wo wr) := by
  subst hK
  exact ⟨pe_bmT pa slot hty hm ho.pe ha.pa hbase hfew hline hs hplain, re_bmT hr ho.re ha.ra⟩
/-! ### index -/
def rIndexT (K : PySem.W.Frag) : V → List V → Hp → VK → Prop := fun x xs H Q => ∃ (p : Addr) (ns : List Int) (k : Int), x = .ref p ∧ xs = [.int k] ∧ SqT K H p (ns.map V.int) ∧ k ∈ ns ∧ Q (.int (ns.idxOf k : Nat)) H
theorem mt_indexT (K : PySem.W.Frag) (hK : X.K = K := by rfl) : MtR X "tuple.index" (rIndexT K) := by
  subst hK
  intro pins s σ H x xs v us Q I rx rs h
  obtain ⟨p, ns, k, rfl, rfl, hs, hk, q⟩ := h
  cases rx
  obtain ⟨u, rfl, t, rfl⟩ := vals1 rs
  obtain ⟨its, rv, pl, hz⟩ := I.tuple hs
  exact SeqAt.tuple_index_ints (show s.heap.IsTuple p its.toArray from pl) rv.ints hk ⟨.int _, H, I.tok _, ⟨_, rfl⟩, q⟩
def wIndexT : D → List D → MS → KV2 → Prop := fun x xs S Q => ∃ (ns : List Int) (k : Int), x = .tup (ns.map D.int) ∧ xs = [.int k] ∧ k ∈ ns ∧ Q (.int (ns.idxOf k : Nat)) S
theorem rm_indexT : RM K (rIndexT K) wIndexT := by
  rintro F S H x vx xs vs Q R fs rx rs ⟨ns, k, rfl, rfl, hk, q⟩ kk
  cases rx with
  | tup h1 h2 =>
    have e := h2.ints
    subst e
    cases rs with
    | cons r1 r2 =>
      cases r2
      cases r1
      exact ⟨_, ns, k, rfl, rfl, exf_t fs.fr h1.sq, hk, kk.int fs q⟩
def rIndexL (K : PySem.W.Frag) : V → List V → Hp → VK → Prop := fun x xs H Q => ∃ (p : Addr) (ns : List Int) (k : Int), x = .ref p ∧ xs = [.int k] ∧ SqL K H p (ns.map V.int) ∧ k ∈ ns ∧ Q (.int (ns.idxOf k : Nat)) H
theorem mt_indexL (K : PySem.W.Frag) (hK : X.K = K := by rfl) : MtR X "list.index" (rIndexL K) := by
  subst hK
  intro pins s σ H x xs v us Q I rx rs h
  obtain ⟨p, ns, k, rfl, rfl, hs, hk, q⟩ := h
  cases rx
  obtain ⟨u, rfl, t, rfl⟩ := vals1 rs
  obtain ⟨its, rv, pl, hz⟩ := I.list hs
  exact SeqAt.list_index_ints pl.isList rv.ints (by rw [List.length_map] at hz; exact hz) hk ⟨.int _, H, I.tok _, ⟨_, rfl⟩, q⟩
def wIndexL : D → List D → MS → KV2 → Prop := fun x xs S Q => ∃ (ns : List Int) (k : Int), rd S x = .lst (ns.map D.int) ∧ xs = [.int k] ∧ k ∈ ns ∧ Q (.int (ns.idxOf k : Nat)) S
theorem rm_indexL : RM K (rIndexL K) wIndexL := by
  rintro F S H x vx xs vs Q R fs rx rs ⟨ns, k, hx, rfl, hk, q⟩ kk
  have rt := rd_ok fs rx
  rw [hx] at rt
  obtain ⟨a, us, rfl, h1, h2⟩ := rt
  have e := h2.ints
  subst e
  cases rs with
  | cons r1 r2 =>
    cases r2
    cases r1
    exact ⟨_, ns, k, rfl, rfl, .inl h1, hk, kk.int fs q⟩
/-! ### t < u -/
theorem op_ltTK (K : PySem.W.Frag) (hu : X.A.units < cLine) (hK : X.K = K := by rfl) : OpR X (compareOp .Lt) (rLtT K) := by subst hK; exact op_ltT hu
def wLtT : D → D → MS → KV2 → Prop := fun x y S Q => ∃ ns ms : List Int, x = .tup (ns.map D.int) ∧ y = .tup (ms.map D.int) ∧ Q (.bl (HT.lexLt ns ms)) S
theorem ro_ltT : RO2 K (rLtT K) wLtT := by
  rintro F S H x y vx vy Q R fs rx ry ⟨ns, ms, rfl, rfl, q⟩ k
  obtain ⟨a, vs, rfl, h1, h2, _⟩ := rx
  obtain ⟨b, us, rfl, h3, h4, _⟩ := ry
  have e := h2.ints
  have e2 := h4.ints
  subst e e2
  exact ⟨a, b, ns, ms, rfl, rfl, h1, h3, k.bl fs q⟩
/-! ### x in xs, of any depth -/
def rInA (K : PySem.W.Frag) (neg : Bool) : R2 := fun x y H Q => ∃ d ds, Dp K H x d ∧ (Dp K H y (.list ds) ∨ Dp K H y (.tuple ds)) ∧ SeqAt.shaped d = true ∧ SeqAt.shaped (.list ds) = true ∧ Q (.bl (if neg then !(ds.any fun z => PyData.eqv z d) else ds.any fun z => PyData.eqv z d)) H
theorem op_inA (K : PySem.W.Frag) (hu : X.A.units + 65 < cLine) (hK : X.K = K := by rfl) : OpR X (compareOp .In) (rInA K false) := by
  subst hK
  intro pins s σ H x y v u Q I rx ry h
  obtain ⟨d, ds, hd, he, sd, se, q⟩ := h
  obtain ⟨as, r1⟩ := Dp.reads I d x v hd rx
  rcases he with he | he
  · obtain ⟨bs, r2⟩ := Dp.reads I (.list ds) y u he ry
    exact SeqAt.in_list_reads r2 r1 (SeqAt.canLay_of_shaped se) (SeqAt.canLay_of_shaped sd) (room_in_shaped sd hu) ⟨.bl _, H, I, rfl, q⟩
  · obtain ⟨bs, r2⟩ := Dp.reads I (.tuple ds) y u he ry
    exact SeqAt.in_tuple_reads r2 r1 (SeqAt.canLay_of_shaped se) (SeqAt.canLay_of_shaped sd) (room_in_shaped sd hu) ⟨.bl _, H, I, rfl, q⟩
theorem op_notInA (K : PySem.W.Frag) (hu : X.A.units + 65 < cLine) (hK : X.K = K := by rfl) : OpR X (compareOp .NotIn) (rInA K true) := by
  subst hK
  intro pins s σ H x y v u Q I rx ry h
  obtain ⟨d, ds, hd, he, sd, se, q⟩ := h
  obtain ⟨as, r1⟩ := Dp.reads I d x v hd rx
  rcases he with he | he
  · obtain ⟨bs, r2⟩ := Dp.reads I (.list ds) y u he ry
    exact SeqAt.notIn_list_reads r2 r1 (SeqAt.canLay_of_shaped se) (SeqAt.canLay_of_shaped sd) (room_in_shaped sd hu) ⟨.bl _, H, I, rfl, q⟩
  · obtain ⟨bs, r2⟩ := Dp.reads I (.tuple ds) y u he ry
    exact SeqAt.notIn_tuple_reads r2 r1 (SeqAt.canLay_of_shaped se) (SeqAt.canLay_of_shaped sd) (room_in_shaped sd hu) ⟨.bl _, H, I, rfl, q⟩
/-- the items, and whether all is of a kind that == covers -/
def wInA (neg : Bool) : D → D → MS → KV2 → Prop := fun x y S Q => ∃ ds, (y = .lst ds ∨ y = .tup ds) ∧ okD x = true ∧ okD (.lst ds) = true ∧ Q (.bl (if neg then !inD x ds else inD x ds)) S
theorem toPys_any {x : D} : ∀ ds : List D, ((toPys ds).any fun z => PyData.eqv z (toPy x)) = inD x ds
  | [] => rfl
  | d :: ds => by
    rw [toPys, List.any_cons, toPys_any ds]
    rfl
theorem ro_inA (neg : Bool) : RO2 K (rInA K neg) (wInA neg) := by
  rintro F S H x y vx vy Q R fs rx ry ⟨ds, hy, hx, hds, q⟩ k
  have d1 := dp_ofT fs rx hx
  rw [← toPys_any] at q
  rcases hy with rfl | rfl
  · exact ⟨_, toPys ds, d1, .inl (dp_ofT fs ry hds), hx, hds, k.bl fs q⟩
  · exact ⟨_, toPys ds, d1, .inr (dp_ofT fs ry hds), hx, hds, k.bl fs q⟩
end
end DL
/-! DL16: sorted of data that is alike. -/
namespace DL
open PySem PySem.Spec PyProof.Rows L2
section
open PySem.W
variable {prog : Program} {w : World} {A : Around} {E : Value → Shared → Prop} {s : Shared}
/-- sorted(x), x's items us, by a kind of order -/
theorem sorted_kind {v : Value} {us : List Value} {Q : Value → Shared → Prop} (Ok : Shared → Prop) (hz : us.length ≤ sizeLine)
    (hcol : wpAny (model prog w) A.in1 (collect v) (fun ys s1 => ys = us ∧ Ok s1) E s)
    (hS : ∀ s1, Ok s1 → ∃ κ : KeyKind, SortsAt prog w A.in1.in1 { s1 with heap := sortingHeap (s1.heap.push (seqObj "list" us.toArray 0)) s1.heap.objs.size us } κ us ∧
      ∀ (h' : Heap) (e : Nat), (∀ b o, s1.heap.get? b = some o → h'.get? b = some o) → h'.get? s1.heap.objs.size = some (seqObj "list" (sortVals κ false us us).toArray e) → Q (.ref s1.heap.objs.size) { s1 with heap := h' }) :
    wpAny (model prog w) A (call (.builtin "sorted") [v]) Q E s := by
  refine Calls.call_function_entry kind_sorted plain_sorted entry_sorted (args_sorted1 v) ?_
  unfold Builtin.«sorted»
  refine wpAny_bind (m := checkCount "sorted" 1 1 [v].length) (wpAny_pure ?_)
  refine wpAny_bind (wpAny_mono hcol (fun ys s1 hy => ?_) fun _ _ x => x)
  obtain ⟨rfl, ok⟩ := hy
  refine wpAny_bind (wpAny_newList (s := s1) ?_ hz)
  have hoL : (s1.heap.push (seqObj "list" ys.toArray 0)).get? s1.heap.objs.size = some (seqObj "list" ys.toArray 0) := Heap.get?_push_size s1.heap rfl
  obtain ⟨κ, hs, hQ⟩ := hS s1 ok
  refine wpAny_bind (wpAny_holding (wpAny_call_entry_kw slot_list_sort ⟨_, hoL, rfl⟩ entry_list_sort (list_sort_vals (s := { s1 with heap := s1.heap.push (seqObj "list" ys.toArray 0) }) hoL hs hz ⟨_, rfl, ?_⟩) (args_list_sort _)))
  obtain ⟨e, he⟩ := sortedHeap_at (vs := ys) (out := (sortVals κ false ys ys).toArray) hoL
  refine wpAny_pure ⟨_, rfl, hQ _ e (fun b o q => ?_) he⟩
  exact (PyProof.Rows.sortedHeap_old (Nat.ne_of_lt (Heap.lt_size q)) (Heap.lt_size (Heap.get?_push_of_some _ q))).trans (Heap.get?_push_of_some _ q)
end
def leD (x y : D) : Bool := PySem.W.dataLe false toPy x y
def sortD (ds : List D) : List D := ds.mergeSort leD
def okSort (ds : List D) : Prop := PySem.W.AllAlike (ds.map toPy) ∧ PySem.W.Sortable (ds.map toPy)
def rSortedD (K : PySem.W.Frag) : List V → Hp → VK → Prop := fun xs H Q => ∃ (a : Addr) (bs : List (D × V)), xs = [.ref a] ∧ (SqL K H a (bs.map (·.2)) ∨ SqT K H a (bs.map (·.2))) ∧ DpAll K H (bs.map (·.2)) (bs.map fun b => toPy b.1) ∧
  PySem.W.AllAlike (bs.map fun b => toPy b.1) ∧ PySem.W.Sortable (bs.map fun b => toPy b.1) ∧ (∀ b ∈ bs, (toPy b.1).depth ≤ 60) ∧ ∀ p, H p = none → Q (.ref p) (upd H p (.lst ((bs.mergeSort fun b c => leD b.1 c.1).map (·.2))))
theorem each_vals : ∀ {bs : List (D × V)} {us : List Value}, Vals (bs.map (·.2)) us → PySem.W.EachIs (fun u (b : D × V) => RelV b.2 u) us bs
  | [], _, r => by cases r; exact .nil
  | b :: bs, _, r => by
    cases r with
    | cons r1 r2 => exact .cons r1 (each_vals r2)
theorem vals_each : ∀ {bs : List (D × V)} {us : List Value}, PySem.W.EachIs (fun u (b : D × V) => RelV b.2 u) us bs → Vals (bs.map (·.2)) us
  | [], _, r => by cases r; exact .nil
  | b :: bs, _, r => by
    cases r with
    | cons r1 r2 => exact .cons r1 (vals_each r2)
section
variable {X : Cx} {K : PySem.W.Frag}
/-- .. of data -/
theorem sorted_data {pins : List (Addr × Obj)} {σ : L2.St} {H : Hp} {s : Shared} {bs : List (D × V)} {v : Value} {us : List Value} {Q : VK} (hu : X.A.units + 64 < cLine) (I : Inv X pins σ H s)
    (hcol : wpAny (model X.prog X.w) X.A.in1 (collect v) (fun ys s1 => ys = us ∧ ∃ h1 tk, s1 = { s with heap := h1, toks := tk } ∧ ∀ b o, s.heap.get? b = some o → h1.get? b = some o) X.xe s)
    (rv : Vals (bs.map (·.2)) us) (hz : us.length ≤ sizeLine) (hd : DpAll X.K H (bs.map (·.2)) (bs.map fun b => toPy b.1)) (hal : PySem.W.AllAlike (bs.map fun b => toPy b.1)) (hso : PySem.W.Sortable (bs.map fun b => toPy b.1)) (hdp : ∀ b ∈ bs, (toPy b.1).depth ≤ 60)
    (q : ∀ p, H p = none → Q (.ref p) (upd H p (.lst ((bs.mergeSort fun b c => leD b.1 c.1).map (·.2))))) : wpAny (model X.prog X.w) X.A (call (.builtin "sorted") [v]) (EP X pins σ Q) X.xe s := by
  obtain ⟨as, ra⟩ := Dp.readsAll I _ _ us hd rv
  have er : PySem.W.EachIs (fun v (b : D × V) => ∃ as, Reads s.heap v (toPy b.1) as) us bs := PySem.W.readsAll_each (fun b : D × V => toPy b.1) ra
  refine sorted_kind _ hz hcol fun s1 ok => ?_
  obtain ⟨h1, tk, rfl, k1⟩ := ok
  have I1 : Inv X pins σ H { s with heap := h1, toks := tk } := I.kept k1
  have old : ∀ b o, s.heap.get? b = some o → b ≠ h1.objs.size ∧ (h1.push (seqObj "list" us.toArray 0)).get? b = some o := fun b o e => ⟨Nat.ne_of_lt (Heap.lt_size (k1 b o e)), Heap.get?_push_of_some _ (k1 b o e)⟩
  have er' : PySem.W.EachIs (fun v (b : D × V) => ∃ as, Reads (PySem.W.sortingHeap (h1.push (seqObj "list" us.toArray 0)) h1.objs.size us) v (toPy b.1) as) us bs := er.mono fun _ _ ⟨as, r⟩ => ⟨as, PyProof.Rows.Reads.keeps (fun b ob z => PySem.W.sortingHeap_old (old b ob z).1 (old b ob z).2) r⟩
  refine ⟨PySem.W.dataKind (PySem.W.sortingHeap (h1.push (seqObj "list" us.toArray 0)) h1.objs.size us) (bs.map fun b => toPy b.1), PySem.W.SortsAt.data (PySem.W.each_map (R := fun v d => ∃ as, Reads (PySem.W.sortingHeap (h1.push (seqObj "list" us.toArray 0)) h1.objs.size us) v d as) (fun b : D × V => toPy b.1) er') hal hso ?_, fun h' e k' he' => ?_⟩
  · intro d hd
    obtain ⟨b, hb, rfl⟩ := List.mem_map.mp hd
    have := hdp b hb
    show X.A.units + 2 + _ < cLine
    omega
  · have eo := PySem.W.sortVals_data false (each_vals rv) er' hal
    have ro := vals_each eo
    have hl2 : ((bs.mergeSort fun b c => leD b.1 c.1).map (·.2)).length ≤ sizeLine := by
      have := rv.length
      rw [List.length_map] at this
      rw [List.length_map, List.length_mergeSort]
      omega
    exact ⟨.ref h1.objs.size, _, I1.laid (t' := tk) (o := .lst ((bs.mergeSort fun b c => leD b.1 c.1).map (·.2))) k' (Nat.le_refl _) ⟨hl2, _, e, ro, he'⟩, rfl, q _ (I1.hok.fresh (Nat.le_refl _))⟩
theorem cr_sortedD (K : PySem.W.Frag) (hu : X.A.units + 64 < cLine) (hK : X.K = K := by rfl) : CallR X (.builtin "sorted") (rSortedD K) := by
  subst hK
  intro pins s σ H xs us Q I r h
  obtain ⟨a, bs, rfl, hs, hd, hal, hso, hdp, q⟩ := h
  rw [Vals.ref1 r]
  have col : ∀ {T : String} {o : Obj} {its : List Value} {n : Nat}, (T = "list" ∨ T = "tuple") → s.heap.get? a = some o → o.cls = .type T → o.data = .seq its.toArray n → its.length ≤ sizeLine →
      wpAny (model X.prog X.w) X.A.in1 (collect (.ref a)) (fun ys s1 => ys = its ∧ ∃ h1 tk, s1 = { s with heap := h1, toks := tk } ∧ ∀ b o, s.heap.get? b = some o → h1.get? b = some o) X.xe s := fun hT ho hc hd hz =>
    wpAny_mono (col_seq hT ho hc hd hz) (fun ys s1 ⟨e, h1, e1, k1⟩ => ⟨e, h1, s.toks, e1, k1⟩) fun _ _ x => x
  rcases hs with hs | hs
  · obtain ⟨its, rv, hl, hz⟩ := I.list hs
    obtain ⟨o, ho, hc, n, hdt⟩ := hl.isList
    have hz' : its.length ≤ sizeLine := by rw [← rv.length]; exact hz
    exact sorted_data hu I (col (.inl rfl) ho hc hdt hz') rv hz' hd hal hso hdp q
  · obtain ⟨its, rv, ⟨o, ho, hc, n, hdt⟩, hz⟩ := I.tuple hs
    have hz' : its.length ≤ sizeLine := by rw [← rv.length]; exact hz
    exact sorted_data hu I (col (.inr rfl) ho hc hdt hz') rv hz' hd hal hso hdp q
def cSortedD (m : Bool) : D → MS → KV2 → Prop := fun x S Q => ∃ ds, (x = .lst ds ∨ x = .tup ds) ∧ okSort ds ∧ (∀ d ∈ ds, okL 60 d = true) ∧ newL m (sortD ds) S Q
theorem reps_zip {F : Hp} : ∀ {ds : List D} {vs : List V}, Reps K F ds vs → (ds.zip vs).map (·.1) = ds ∧ (ds.zip vs).map (·.2) = vs ∧ ∀ p ∈ ds.zip vs, Rep K F p.1 p.2
  | [], _, r => by cases r; exact ⟨rfl, rfl, fun _ h => nomatch h⟩
  | d :: ds, _, r => by
    cases r with
    | cons r1 r2 =>
      obtain ⟨h1, h2, h3⟩ := reps_zip r2
      refine ⟨by rw [List.zip_cons_cons, List.map_cons, h1], by rw [List.zip_cons_cons, List.map_cons, h2], fun p hp => ?_⟩
      rw [List.zip_cons_cons] at hp
      rcases List.mem_cons.mp hp with rfl | hp
      · exact r1
      · exact h3 p hp
theorem reps_of_all {F : Hp} : ∀ {bs : List (D × V)}, (∀ p ∈ bs, Rep K F p.1 p.2) → Reps K F (bs.map (·.1)) (bs.map (·.2))
  | [], _ => .nil
  | b :: bs, h => .cons (h b List.mem_cons_self) (reps_of_all fun p hp => h p (List.mem_cons_of_mem _ hp))
theorem roc_sortedD (m : Bool) : ROc K (rSortedD K) (w1 (cSortedD m)) := roc1 fun F S H x v Q R fs rx ⟨ds, hx, ⟨ho1, ho2⟩, ho3, q⟩ k => by
  have fin : ∀ a vs, (SqL K H a vs ∨ SqT K H a vs) → Reps K F ds vs → rSortedD K [.ref a] H R := fun a vs hs r => by
    obtain ⟨z1, z2, z3⟩ := reps_zip r
    have e1 : (ds.zip vs).map (fun b => toPy b.1) = ds.map toPy := by
      have e0 : (ds.zip vs).map (fun b => toPy b.1) = ((ds.zip vs).map (fun b => b.1)).map toPy := by rw [List.map_map]; rfl
      rw [e0, z1]
    have hc : PyData.canLayAll0 (toPys ds) = true := (okL_all ho3).1
    refine ⟨a, ds.zip vs, rfl, by rw [z2]; exact hs, ?_, by rw [e1]; exact ho1, by rw [e1]; exact ho2, fun b hb => ?_, fun p hp => ?_⟩
    · rw [z2, e1, ← toPys_map]
      exact dps_of fs ds vs r hc
    · have : b.1 ∈ ds := by rw [← z1]; exact List.mem_map.mpr ⟨b, hb, rfl⟩
      have := ho3 _ this
      simp only [okL, Bool.and_eq_true, decide_eq_true_eq] at this
      exact this.2
    · have e2 : ((ds.zip vs).mergeSort fun b c => leD b.1 c.1).map (·.1) = sortD ds := by
        rw [List.map_mergeSort (s := leD) (fun _ _ _ _ => rfl), z1]
        rfl
      have r2 : Reps K F (sortD ds) (((ds.zip vs).mergeSort fun b c => leD b.1 c.1).map (·.2)) := by
        rw [← e2]
        exact reps_of_all fun p hp => z3 p ((List.mergeSort_perm _ _).mem_iff.mp hp)
      exact newL_ok k fs r2 q hp
  rcases hx with rfl | rfl
  · obtain ⟨a, vs, rfl, h1, h2⟩ := rx
    exact fin a vs (.inl (.inl h1)) h2
  · obtain ⟨a, vs, rfl, h1, h2, _⟩ := rx
    exact fin a vs (.inr h1) h2
end
end DL
/-! DL17: repr of data; sorting of rows. -/
namespace DL
open PySem PySem.Spec PyProof.Rows L2
/-! ### repr -/
def reprD (d : D) : Str := (toPy d).shown
def rRepr (K : PySem.W.Frag) : List V → Hp → VK → Prop := fun xs H Q => ∃ (a : Addr) (d : PyData), xs = [.ref a] ∧ Dp K H (.ref a) d ∧ d.showable = true ∧ d.hasDict = false ∧ d.depth ≤ 60 ∧ d.shown.length ≤ sizeLine ∧ Q (.str d.shown) H
section
variable {X : Cx} {K : PySem.W.Frag}
theorem cr_repr (K : PySem.W.Frag) (hu : X.A.units + 64 < cLine) (hG : X.A.guards = some []) (hK : X.K = K := by rfl) : CallR X (.builtin "repr") (rRepr K) := by
  subst hK
  intro pins s σ H xs us Q I r h
  obtain ⟨a, d, rfl, hd, hs, hn, hdp, hz, q⟩ := h
  rw [Vals.ref1 r]
  obtain ⟨as, rd⟩ := Dp.reads I d (.ref a) (.ref a) hd rfl
  exact repr_of_reads' rd hs (fun h' => by rw [hn] at h'; cases h') hG (by omega) (fun _ _ h => h) (fun h' u tk hk => ⟨.str _, H, I.kept (t' := tk) hk, ⟨u, rfl⟩, q⟩) hz
end
/-- what repr covers here: lists and tuples of flat data, not too deep, numbers not too great -/
def okR (d : D) : Bool := (toPy d).showable && (!(toPy d).hasDict && (decide ((toPy d).depth ≤ 60) && ((toPy d).canLay0 && decide ((toPy d).shown.length ≤ sizeLine))))
def cRepr : D → MS → KV2 → Prop := fun x S Q => (∃ ds, x = .lst ds ∨ x = .tup ds) ∧ okR x = true ∧ Q (.str (reprD x)) S
theorem roc_repr {K : PySem.W.Frag} : ROc K (rRepr K) (w1 cRepr) := roc1 fun F S H x v Q R fs rx ⟨⟨ds, hx⟩, ho, q⟩ k => by
  simp only [okR, Bool.and_eq_true, Bool.not_eq_true', decide_eq_true_eq] at ho
  obtain ⟨h1, h2, h3, h4, h5⟩ := ho
  have sh : SeqAt.shaped (toPy x) = true := by
    unfold SeqAt.shaped
    rw [h4, decide_eq_true (by omega)]
    rfl
  have dp := dp_ofT fs rx sh
  have va : ∃ a, v = .ref a := by
    rcases hx with rfl | rfl
    · obtain ⟨a, _, rfl, _⟩ := rx
      exact ⟨a, rfl⟩
    · obtain ⟨a, _, rfl, _⟩ := rx
      exact ⟨a, rfl⟩
  obtain ⟨a, rfl⟩ := va
  exact ⟨a, _, rfl, dp, h1, h2, h3, h5, k.here fs (.str _) q⟩
/-! ### rows of numbers, sorted -/
abbrev tupI (r : List Int) : D := .tup (r.map D.int)
theorem toPys_ints (r : List Int) : toPys (r.map D.int) = r.map PyData.int := by
  rw [toPys_map, List.map_map]
  rfl
theorem leD_int (x y : Int) : leD (.int x) (.int y) = decide (x ≤ y) := by
  show (!PySem.W.dataLt (.int y) (.int x)) = _
  rw [PySem.W.dataLt_int, PySem.W.not_lt_int]
theorem leD_row (x y : List Int) : leD (tupI x) (tupI y) = decide (x ≤ y) := by
  show (!PySem.W.dataLt (.tuple (toPys (y.map D.int))) (.tuple (toPys (x.map D.int)))) = _
  rw [toPys_ints, toPys_ints, PySem.W.dataLt_tuple]
  show (!PySem.W.rowLt (y.map .int) (x.map .int)) = _
  rw [PySem.W.dataLt_ints]
  by_cases h : y < x
  · have h' : ¬ x ≤ y := fun r => List.not_lt.mpr r h
    simp [h, h']
  · have h' : x ≤ y := List.not_lt.mp h
    simp [h, h']
theorem sortD_ints (ns : List Int) : sortD (ns.map D.int) = (ns.mergeSort fun a b => decide (a ≤ b)).map D.int := by
  unfold sortD
  rw [List.map_mergeSort (s := leD) fun a _ b _ => (leD_int a b).symm]
theorem sortD_rows (rs : List (List Int)) : sortD (rs.map tupI) = (rs.mergeSort fun a b => decide (a ≤ b)).map tupI := by
  unfold sortD
  rw [List.map_mergeSort (s := leD) fun a _ b _ => (leD_row a b).symm]
theorem okSort_ints (ns : List Int) : okSort (ns.map D.int) := by
  refine ⟨fun d hd d' hd' => ?_, .inr fun d hd => ?_⟩
  · obtain ⟨x, hx, rfl⟩ := List.mem_map.mp hd
    obtain ⟨y, hy, rfl⟩ := List.mem_map.mp hd'
    obtain ⟨i, _, rfl⟩ := List.mem_map.mp hx
    obtain ⟨j, _, rfl⟩ := List.mem_map.mp hy
    simp [toPy, PySem.W.alike]
  · obtain ⟨x, hx, rfl⟩ := List.mem_map.mp hd
    obtain ⟨i, _, rfl⟩ := List.mem_map.mp hx
    exact ⟨nofun, fun xs => nofun⟩
theorem okSort_rows {rs : List (List Int)} (h : ∀ r ∈ rs, r ≠ []) : okSort (rs.map tupI) := by
  refine ⟨fun d hd d' hd' => ?_, .inl fun d hd => ?_⟩
  · obtain ⟨x, hx, rfl⟩ := List.mem_map.mp hd
    obtain ⟨y, hy, rfl⟩ := List.mem_map.mp hd'
    obtain ⟨r, _, rfl⟩ := List.mem_map.mp hx
    obtain ⟨r', _, rfl⟩ := List.mem_map.mp hy
    simp only [toPy, toPys_ints, PySem.W.alike]
    exact PySem.W.alike_ints r r'
  · obtain ⟨x, hx, rfl⟩ := List.mem_map.mp hd
    obtain ⟨r, hr, rfl⟩ := List.mem_map.mp hx
    cases r with
    | nil => exact absurd rfl (h _ hr)
    | cons a r => exact ⟨.int a, r.map .int, by show PyData.tuple (toPys ((a :: r).map D.int)) = _; rw [toPys_ints]; rfl⟩
theorem okL_row {n : Nat} (h : 1 ≤ n) (r : List Int) : okL n (tupI r) = true := okL_mono (okL_tup (n := 0) fun d hd => by
  obtain ⟨i, _, rfl⟩ := List.mem_map.mp hd
  exact okL_int) h
theorem lexLt_eq (x y : List Int) : HT.lexLt x y = decide (x < y) := by
  induction x generalizing y with
  | nil => cases y <;> simp [HT.lexLt]
  | cons a x ih =>
    cases y with
    | nil => simp [HT.lexLt]
    | cons b y =>
      rw [HT.lexLt_cons, ih]
      by_cases h : a = b
      · simp [h, List.cons_lt_cons_iff]
      · simp [h, List.cons_lt_cons_iff]
theorem sorted_ints_le (ns : List Int) : (ns.mergeSort fun a b => decide (a ≤ b)).Pairwise (· ≤ ·) :=
  (List.pairwise_mergeSort (le := fun a b => decide (a ≤ b)) (fun a b c h1 h2 => by simp at h1 h2 ⊢; omega) (fun a b => by simp; omega) ns).imp fun h => of_decide_eq_true h
theorem sorted_rows_le (rs : List (List Int)) : (rs.mergeSort fun a b => decide (a ≤ b)).Pairwise (· ≤ ·) :=
  (List.pairwise_mergeSort (le := fun a b => decide (a ≤ b)) (fun a b c h1 h2 => by
    simp only [decide_eq_true_eq] at h1 h2 ⊢
    exact List.le_trans h1 h2) (fun a b => by
    simp only [Bool.or_eq_true, decide_eq_true_eq]
    exact List.le_total a b) rs).imp fun h => of_decide_eq_true h
end DL
/-! DL18: all, any of a comprehension; more to rewrite readings. -/
namespace DL
open PySem PySem.Spec PyProof.Rows L2
theorem RoomG.un1 {k : Nat} {A : Around} (h : RoomG k A) : A.units < cLine := by have := h.units; omega
theorem compAll {g : MS → Prop} {wg : WG} {we : DL.WE} {ρ0 : Rho} {S0 : MS} {Q : KV2} {ds : List D} (f : D → Bool) (hg : ∀ S, Sub S0 S → g S) (hz : ds.length ≤ sizeLine)
    (hs : ∀ d ∈ ds, ∀ S, Sub S0 S → ∀ N : D → MS → Prop, N (.bl (f d)) S → wg d ρ0 S fun ρ1 S1 => we ρ1 S1 fun x _ S3 => N x S3) (q : Q (.bl (ds.all f)) S0) :
    ∀ a, S0 a = none → compW a g wg wYes we (fun S2 => endL false a S2 fun d S3 => cAll (rd S3 d) S3 Q) ρ0 ds (S0.set a (.lst [])) := by
  refine compL_map (Q := fun d S3 => cAll (rd S3 d) S3 Q) (fun d => .bl (f d)) hg hz hs ?_
  rw [map_bl]
  refine cAll_bl ?_
  rw [all_map_id]
  exact q
theorem compAny {g : MS → Prop} {wg : WG} {we : DL.WE} {ρ0 : Rho} {S0 : MS} {Q : KV2} {ds : List D} (f : D → Bool) (hg : ∀ S, Sub S0 S → g S) (hz : ds.length ≤ sizeLine)
    (hs : ∀ d ∈ ds, ∀ S, Sub S0 S → ∀ N : D → MS → Prop, N (.bl (f d)) S → wg d ρ0 S fun ρ1 S1 => we ρ1 S1 fun x _ S3 => N x S3) (q : Q (.bl (ds.any f)) S0) :
    ∀ a, S0 a = none → compW a g wg wYes we (fun S2 => endL false a S2 fun d S3 => cAny (rd S3 d) S3 Q) ρ0 ds (S0.set a (.lst [])) := by
  refine compL_map (Q := fun d S3 => cAny (rd S3 d) S3 Q) (fun d => .bl (f d)) hg hz hs ?_
  rw [map_bl]
  refine cAny_bl ?_
  rw [List.any_map]
  exact q
/-- all of them, each True -/
theorem compAllT {g : MS → Prop} {wg : WG} {we : DL.WE} {ρ0 : Rho} {S0 : MS} {Q : KV2} {ds : List D} (hg : ∀ S, Sub S0 S → g S) (hz : ds.length ≤ sizeLine)
    (hs : ∀ d ∈ ds, ∀ S, Sub S0 S → ∀ N : D → MS → Prop, N (.bl true) S → wg d ρ0 S fun ρ1 S1 => we ρ1 S1 fun x _ S3 => N x S3) (q : Q (.bl true) S0) :
    ∀ a, S0 a = none → compW a g wg wYes we (fun S2 => endL false a S2 fun d S3 => cAll (rd S3 d) S3 Q) ρ0 ds (S0.set a (.lst [])) := by
  refine compAll (fun _ => true) hg hz hs ?_
  rw [List.all_eq_true.mpr fun _ _ => rfl]
  exact q
/-- any of them, whatever each is -/
theorem compAnyF {g : MS → Prop} {wg : WG} {we : DL.WE} {ρ0 : Rho} {S0 : MS} {Q : KV2} {ds : List D} (hg : ∀ S, Sub S0 S → g S) (hz : ds.length ≤ sizeLine)
    (hs : ∀ d ∈ ds, ∀ S, Sub S0 S → ∀ N : D → MS → Prop, (∀ b, N (.bl b) S) → wg d ρ0 S fun ρ1 S1 => we ρ1 S1 fun x _ S3 => N x S3) (q : ∀ b, Q (.bl b) S0) :
    ∀ a, S0 a = none → compW a g wg wYes we (fun S2 => endL false a S2 fun d S3 => cAny (rd S3 d) S3 Q) ρ0 ds (S0.set a (.lst [])) := by
  refine compL_all (Q := fun d S3 => cAny (rd S3 d) S3 Q) (fun x => ∃ b, x = .bl b) hg hz (fun d hd S s N hN => hs d hd S s N fun b => hN _ ⟨b, rfl⟩) fun xs hl hx => ?_
  have : ∃ bs : List Bool, xs = bs.map D.bl := by
    clear hs hz q hl
    induction xs with
    | nil => exact ⟨[], rfl⟩
    | cons x xs ih =>
      obtain ⟨b, rfl⟩ := hx x List.mem_cons_self
      obtain ⟨bs, rfl⟩ := ih fun y hy => hx y (List.mem_cons_of_mem _ hy)
      exact ⟨b :: bs, rfl⟩
  obtain ⟨bs, rfl⟩ := this
  exact ⟨bs, rfl, q _⟩
theorem zipD_mem {xs ys : List D} {d : D} (h : d ∈ zipD xs ys) : ∃ i : Nat, i < xs.length ∧ i < ys.length ∧ d = .wtup [xs.getD i .non, ys.getD i .non] := by
  obtain ⟨i, hi, rfl⟩ := List.mem_map.mp h
  have := List.mem_range.mp hi
  exact ⟨i, by omega, by omega, rfl⟩
theorem wiZip_tup {wr : WA} {ρ : Rho} {S : MS} {Q : List D → (MS → Prop) → Rho → MS → Prop} {xs ys : List D} {ρ1 : Rho} {S1 : MS} (h : ∀ R : List D → Rho → MS → Prop, wr ρ S R ↔ R [.tup xs, .tup ys] ρ1 S1) : wiZip wr ρ S Q ↔ Q (zipD xs ys) noG ρ1 S1 := h _
theorem eqD_str {a b : Str} : eqD (.str a) (.str b) = decide (a = b) := by
  simp only [eqD, toPy, PyData.eqv]
  rfl
theorem flat_str {a : Str} : flatD (.str a) = true := rfl
theorem flat_non : flatD .non = true := rfl
theorem flat_bl {a : Bool} : flatD (.bl a) = true := rfl
theorem inD_nil {x : D} : inD x [] = false := rfl
theorem inD_cons {x y : D} {ds : List D} : inD x (y :: ds) = (eqD y x || inD x ds) := rfl
theorem okD_str {a : Str} (h : (PyData.str a).canLay0 = true) : okD (.str a) = true := by
  show SeqAt.shaped _ = true
  unfold SeqAt.shaped
  simp only [toPy, h, PyData.depth, Bool.true_and, decide_eq_true_eq]
  omega
theorem okD_pstr {a : Str} (h : pu (.str a) = true) : okD (.str a) = true := okD_str (by simpa [pu] using h)
theorem eqD_is {x y : D} (h : eqD x y = true) : ∀ i : Int, x = .int i → ∀ j : Int, y = .int j → i = j := by
  rintro i rfl j rfl
  rw [eqD_int] at h
  exact of_decide_eq_true h
end DL
/-! DL19: comprehensions with a known result; with a result that is a part. -/
namespace DL
open PySem PySem.Spec PyProof.Rows L2
/-- the result is xs, item by item -/
theorem compL_to {g : MS → Prop} {wg : WG} {we : DL.WE} {ρ0 : Rho} {S0 : MS} {Q : KV2} {ds : List D} (xs : List D) (hl : xs.length = ds.length) (hg : ∀ S, Sub S0 S → g S) (hz : ds.length ≤ sizeLine)
    (hs : ∀ (i : Nat) d x, ds[i]? = some d → xs[i]? = some x → ∀ S, Sub S0 S → ∀ N : D → MS → Prop, N x S → wg d ρ0 S fun ρ1 S1 => we ρ1 S1 fun x _ S3 => N x S3) (q : Q (.lst xs) S0) :
    ∀ a, S0 a = none → compW a g wg wYes we (fun S2 => endL false a S2 Q) ρ0 ds (S0.set a (.lst [])) := fun a ha => by
  refine compL_inv ha (fun dn td acc => dn ++ td = ds ∧ acc = xs.take dn.length) hg (fun dn d td acc ⟨e, ea⟩ N M hN hM => ?hs) (fun dn td acc ⟨e, ea⟩ hne => ?hz) (fun dn acc ⟨e, ea⟩ => ?hd) ds [] [] ⟨rfl, rfl⟩
  case hs =>
    have hlen : ds.length = dn.length + (td.length + 1) := by rw [← e]; simp
    have hx : dn.length < xs.length := by omega
    have h2 : xs[dn.length]? = some xs[dn.length] := List.getElem?_eq_getElem hx
    refine hs dn.length d xs[dn.length] (by rw [← e]; simp) h2 _ (Sub.set ha) _ ?_
    refine hN _ _ rfl ?_ ⟨by rw [← e]; simp, ?_⟩
    · rw [ea, List.length_take]
      omega
    · rw [ea, List.length_append, List.length_singleton, List.take_add_one, h2]
      rfl
  case hz =>
    rw [ea, List.length_take]
    have h1 : ds.length = dn.length + td.length := by rw [← e]; simp
    have h2 : 0 < td.length := List.length_pos_iff.mpr hne
    omega
  case hd =>
    rw [List.append_nil] at e
    subst e
    rw [← hl, List.take_length] at ea
    subst ea
    exact endL_f ha q
theorem compAllTo {g : MS → Prop} {wg : WG} {we : DL.WE} {ρ0 : Rho} {S0 : MS} {Q : KV2} {ds : List D} (bs : List Bool) (hl : bs.length = ds.length) (hg : ∀ S, Sub S0 S → g S) (hz : ds.length ≤ sizeLine)
    (hs : ∀ (i : Nat) d b, ds[i]? = some d → bs[i]? = some b → ∀ S, Sub S0 S → ∀ N : D → MS → Prop, N (.bl b) S → wg d ρ0 S fun ρ1 S1 => we ρ1 S1 fun x _ S3 => N x S3) (q : Q (.bl (bs.all id)) S0) :
    ∀ a, S0 a = none → compW a g wg wYes we (fun S2 => endL false a S2 fun d S3 => cAll (rd S3 d) S3 Q) ρ0 ds (S0.set a (.lst [])) := by
  refine compL_to (Q := fun d S3 => cAll (rd S3 d) S3 Q) (bs.map D.bl) (by rw [List.length_map]; exact hl) hg hz (fun i d x h1 h2 => ?_) ⟨bs, rfl, q⟩
  rw [List.getElem?_map] at h2
  cases e : bs[i]? with
  | none => rw [e] at h2; cases h2
  | some b =>
    rw [e] at h2
    cases h2
    exact hs i d b h1 e
theorem compAnyTo {g : MS → Prop} {wg : WG} {we : DL.WE} {ρ0 : Rho} {S0 : MS} {Q : KV2} {ds : List D} (bs : List Bool) (hl : bs.length = ds.length) (hg : ∀ S, Sub S0 S → g S) (hz : ds.length ≤ sizeLine)
    (hs : ∀ (i : Nat) d b, ds[i]? = some d → bs[i]? = some b → ∀ S, Sub S0 S → ∀ N : D → MS → Prop, N (.bl b) S → wg d ρ0 S fun ρ1 S1 => we ρ1 S1 fun x _ S3 => N x S3) (q : Q (.bl (bs.any id)) S0) :
    ∀ a, S0 a = none → compW a g wg wYes we (fun S2 => endL false a S2 fun d S3 => cAny (rd S3 d) S3 Q) ρ0 ds (S0.set a (.lst [])) := by
  refine compL_to (Q := fun d S3 => cAny (rd S3 d) S3 Q) (bs.map D.bl) (by rw [List.length_map]; exact hl) hg hz (fun i d x h1 h2 => ?_) ⟨bs, rfl, q⟩
  rw [List.getElem?_map] at h2
  cases e : bs[i]? with
  | none => rw [e] at h2; cases h2
  | some b =>
    rw [e] at h2
    cases h2
    exact hs i d b h1 e
/-- some of them, whichever -/
theorem compL_sub {g : MS → Prop} {wg : WG} {wt : WT} {we : DL.WE} {ρ0 : Rho} {S0 : MS} {Q : KV2} {ds : List D} (f : D → D) (hg : ∀ S, Sub S0 S → g S) (hz : ds.length ≤ sizeLine)
    (hs : ∀ d ∈ ds, ∀ S, Sub S0 S → ∀ (N : D → MS → Prop) (M : MS → Prop), N (f d) S → M S → wg d ρ0 S fun ρ1 S1 => wt ρ1 S1 fun b ρ2 S2 => if b = true then we ρ2 S2 fun x _ S3 => N x S3 else M S2) (q : ∀ xs : List D, xs.Sublist ds → Q (.lst (xs.map f)) S0) :
    ∀ a, S0 a = none → compW a g wg wt we (fun S2 => endL false a S2 Q) ρ0 ds (S0.set a (.lst [])) := fun a ha => by
  refine compL_inv ha (fun dn td acc => dn ++ td = ds ∧ ∃ xs : List D, xs.Sublist dn ∧ acc = xs.map f) hg (fun dn d td acc ⟨e, xs, hx, ea⟩ N M hN hM => ?hs) (fun dn td acc ⟨e, xs, hx, ea⟩ hne => ?hz) (fun dn acc ⟨e, xs, hx, ea⟩ => ?hd) ds [] [] ⟨rfl, [], List.Sublist.refl _, rfl⟩
  case hs =>
    have hd : d ∈ ds := by rw [← e]; simp
    refine hs d hd _ (Sub.set ha) _ _ ?_ ?_
    · refine hN (f d) _ rfl ?_ ⟨by rw [← e]; simp, xs ++ [d], List.Sublist.append hx (List.Sublist.refl _), by rw [ea]; simp⟩
      rw [ea, List.length_map]
      have h1 := hx.length_le
      have : ds.length = dn.length + (td.length + 1) := by rw [← e]; simp
      omega
    · exact hM _ rfl ⟨by rw [← e]; simp, xs, hx.trans (List.sublist_append_left dn [d]), ea⟩
  case hz =>
    rw [ea, List.length_map]
    have h0 := hx.length_le
    have h1 : ds.length = dn.length + td.length := by rw [← e]; simp
    have h2 : 0 < td.length := List.length_pos_iff.mpr hne
    omega
  case hd =>
    rw [List.append_nil] at e
    subst e ea
    exact endL_f ha (q xs hx)
theorem getD_int {ns : List Int} {i : Nat} (h : i < ns.length) : (ns.map D.int).getD i .non = .int ns[i] := by
  rw [List.getD_eq_getElem?_getD, List.getElem?_map, List.getElem?_eq_getElem h]; rfl
theorem getD_map {α : Type} {f : α → D} {ns : List α} {i : Nat} (h : i < ns.length) : (ns.map f).getD i .non = f ns[i] := by
  rw [List.getD_eq_getElem?_getD, List.getElem?_map, List.getElem?_eq_getElem h]; rfl
theorem wIxt {xs : List D} {i : Int} {S : MS} {Q : KV2} (h0 : 0 ≤ i) (h1 : i < xs.length) (q : Q (xs.getD i.toNat .non) S) : wIx (.tup xs) (.int i) S Q := (z_ixt_lt h0 h1).mpr q
end DL
/-! DL20: comprehensions whose list is kept. -/
namespace DL
open PySem PySem.Spec PyProof.Rows L2
/-- the result is xs, item by item; the list may change later -/
theorem compL_toT {g : MS → Prop} {wg : WG} {we : DL.WE} {ρ0 : Rho} {S0 : MS} {Q : KV2} {ds : List D} (xs : List D) (hl : xs.length = ds.length) (hg : ∀ S, Sub S0 S → g S) (hz : ds.length ≤ sizeLine)
    (hs : ∀ (i : Nat) d x, ds[i]? = some d → xs[i]? = some x → ∀ S, Sub S0 S → ∀ N : D → MS → Prop, N x S → wg d ρ0 S fun ρ1 S1 => we ρ1 S1 fun x _ S3 => N x S3) (q : ∀ a, S0 a = none → Q (.ref a) (S0.set a (.lst xs))) :
    ∀ a, S0 a = none → compW a g wg wYes we (fun S2 => endL true a S2 Q) ρ0 ds (S0.set a (.lst [])) := fun a ha => by
  refine compL_inv ha (fun dn td acc => dn ++ td = ds ∧ acc = xs.take dn.length) hg (fun dn d td acc ⟨e, ea⟩ N M hN hM => ?hs) (fun dn td acc ⟨e, ea⟩ hne => ?hz) (fun dn acc ⟨e, ea⟩ => ?hd) ds [] [] ⟨rfl, rfl⟩
  case hs =>
    have hlen : ds.length = dn.length + (td.length + 1) := by rw [← e]; simp
    have hx : dn.length < xs.length := by omega
    have h2 : xs[dn.length]? = some xs[dn.length] := List.getElem?_eq_getElem hx
    refine hs dn.length d xs[dn.length] (by rw [← e]; simp) h2 _ (Sub.set ha) _ ?_
    refine hN _ _ rfl ?_ ⟨by rw [← e]; simp, ?_⟩
    · rw [ea, List.length_take]
      omega
    · rw [ea, List.length_append, List.length_singleton, List.take_add_one, h2]
      rfl
  case hz =>
    rw [ea, List.length_take]
    have h1 : ds.length = dn.length + td.length := by rw [← e]; simp
    have h2 : 0 < td.length := List.length_pos_iff.mpr hne
    omega
  case hd =>
    rw [List.append_nil] at e
    subst e
    rw [← hl, List.take_length] at ea
    subst ea
    exact endL_t (q a ha)
theorem MS.set_t {S : MS} {t e : Addr} {m x : MO} (ht : S t = some x) (he : S e = none) : (S.set e m) t = some x := by
  rw [MS.set_ne (MS.ne_of ht he)]
  exact ht
end DL
/-! DL21: dicts whose keys are ints and texts: made to change, read, asked, written. -/
namespace DL
open PySem PySem.Spec PyProof.Rows L2
def keyD : Key → D
  | .inl i => .int i
  | .inr x => .str x
def lookD : List Key → List D → Key → Option D
  | k' :: ks, d :: ds, k => if k' = k then some d else lookD ks ds k
  | _, _, _ => none
def putDs (k : Key) (v : D) : List Key → List D → List D
  | k' :: ks, d :: ds => (if k' = k then v else d) :: putDs k v ks ds
  | _, _ => []
def hasK (k : Key) (ks : List Key) : Bool := ks.any fun x => decide (x = k)
def putDic (k : Key) (v : D) (ks : List Key) (ds : List D) : MO := if hasK k ks = true then .dic ks (putDs k v ks ds) else .dic (ks ++ [k]) (ds ++ [v])
section
variable {K : PySem.W.Frag} {F F' H H' : Hp} {S : MS}
theorem rep_key {k : Key} {v : V} (r : Rep K F (keyD k) v) : v = kV k := by
  cases k <;> (cases r; rfl)
theorem reps_look {k : Key} : ∀ {kvs : List (Key × V)} {ds : List D} {d : D}, Reps K F ds (kvs.map (·.2)) → lookD (kvs.map (·.1)) ds k = some d → ∃ v, valV kvs k = some v ∧ Rep K F d v
  | [], ds, d, r, e => by cases r; cases e
  | (k', v) :: kvs, ds, d, r, e => by
    cases r with
    | @cons x _ ds' _ r1 r2 =>
      simp only [List.map_cons, lookD] at e
      by_cases h : k' = k
      · rw [if_pos h] at e
        cases e
        exact ⟨v, valV_pos h, r1⟩
      · rw [if_neg h] at e
        obtain ⟨u, h1, h2⟩ := reps_look r2 e
        exact ⟨u, by rw [valV_neg h]; exact h1, h2⟩
theorem val_mem {k : Key} (kvs : List (Key × V)) : (valV kvs k).isSome = hasK k (kvs.map (·.1)) := by
  rw [← valV_any, hasK, List.any_map]
  rfl
theorem reps_putD {k : Key} {v : V} {y : D} (ry : Rep K F y v) : ∀ {kvs : List (Key × V)} {ds : List D}, Reps K F ds (kvs.map (·.2)) → Reps K F (putDs k y (kvs.map (·.1)) ds) ((kvs.map fun kv => if kv.1 = k then (kv.1, v) else kv).map (·.2))
  | [], ds, r => by cases r; exact .nil
  | (k', x) :: kvs, ds, r => by
    cases r with
    | @cons d _ ds' _ r1 r2 =>
      have ih := reps_putD (k := k) ry r2
      simp only [List.map_cons, putDs]
      by_cases h : k' = k
      · rw [if_pos h, if_pos h]
        exact .cons ry ih
      · rw [if_neg h, if_neg h]
        exact .cons r1 ih
theorem keys_repl {k : Key} {v : V} (kvs : List (Key × V)) : (kvs.map fun kv => if kv.1 = k then (kv.1, v) else kv).map (·.1) = kvs.map (·.1) := by
  rw [List.map_map]
  refine List.map_congr_left fun p _ => ?_
  show (if p.1 = k then (p.1, v) else p).1 = p.1
  split <;> rfl
end
section
variable {X : Cx} {L : Lk} {K : PySem.W.Frag} {o i e value : Expr} {td ty tv : TE} {wd wy wv : WE} {pos pos' : Pos}
/-! ### {} that may change -/
def wDicN : WE := fun ρ S Q => ∀ a, S a = none → Q (.ref a) ρ (S.set a (.dic [] []))
theorem re_dicN : RE K L tDNewK wDicN := by
  intro F ρ S σ H Q R m q k p hp
  obtain ⟨sp, fp⟩ := m.fs.notS hp
  exact k _ _ _ ρ _ F (ExF.refl F) (m.step (ExF.refl F) (m.fs.alloc (m := .dic [] []) hp rfl ⟨[], upd_same, rfl, .nil⟩)) (.ref p) (q p sp)
theorem de_dicN : DE X L (.Dict [] [] pos) tDNewK wDicN := ⟨pe_dnewK, re_dicN⟩
/-! ### d[k] -/
def rDGet : R2 := fun x y H Q => ∃ a v, x = .ref a ∧ DGet H a y (some v) ∧ Q v H
def wDGet : D → D → MS → KV2 → Prop := fun x y S Q => ∃ ks ds k d, x = .dic ks ds ∧ y = keyD k ∧ lookD ks ds k = some d ∧ Q d S
theorem ro_dget : RO2 K rDGet wDGet := by
  rintro F S H x y vx vy Q R fs rx ry ⟨ks, ds, k, d, rfl, rfl, e, q⟩ kk
  obtain ⟨a, kvs, rfl, h1, h2, h3⟩ := rx
  subst h2
  have ry' : vy = kV k := rep_key (K := K) (F := F) (by cases k <;> exact ry)
  subst ry'
  obtain ⟨v, h4, h5⟩ := reps_look h3 e
  exact ⟨a, v, rfl, by rw [← h4]; exact DGet.k h1, kk v H d S F (ExF.refl F) fs h5 q⟩
theorem de_dget (hu : X.A.units + 65 < cLine) (ho : DE X L o td wd) (hi : DE X L i ty wy) (hs : NoSl i) : DE X L (.Subscript o i pos) (tDGet td ty) (wOp wDGet wd wy) :=
  ⟨pe_dget (by omega) ho.pe hi.pe hs, re_op ro_dget ho.re hi.re⟩
/-! ### k in d -/
def rDIn (neg : Bool) : R2 := fun y x H Q => ∃ a o, x = .ref a ∧ DGet H a y o ∧ Q (.bl (if neg then !o.isSome else o.isSome)) H
def wDIn (neg : Bool) : D → D → MS → KV2 → Prop := fun y x S Q => ∃ ks ds k, x = .dic ks ds ∧ y = keyD k ∧ Q (.bl (if neg then !hasK k ks else hasK k ks)) S
theorem op_dIn (hu : X.A.units + 65 < cLine) : OpR X (compareOp .In) (rDIn false) := fun pins s σ H x y v u Q I rx ry ⟨a, o, ey, g, q⟩ => by
  subst ey
  obtain rfl : u = Value.ref a := ry
  exact d_in (by omega) I g rx fun s' I' => ⟨.bl o.isSome, H, I', rfl, q⟩
theorem op_dNotIn (hu : X.A.units + 65 < cLine) : OpR X (compareOp .NotIn) (rDIn true) := fun pins s σ H x y v u Q I rx ry ⟨a, o, ey, g, q⟩ => by
  subst ey
  obtain rfl : u = Value.ref a := ry
  exact d_notIn (by omega) I g rx fun s' I' => ⟨.bl (!o.isSome), H, I', rfl, q⟩
theorem ro_dIn (neg : Bool) : RO2 K (rDIn neg) (wDIn neg) := by
  rintro F S H y x vy vx Q R fs ry rx ⟨ks, ds, k, rfl, rfl, q⟩ kk
  obtain ⟨a, kvs, rfl, h1, h2, h3⟩ := rx
  subst h2
  have ry' : vy = kV k := rep_key (K := K) (F := F) (by cases k <;> exact ry)
  subst ry'
  refine ⟨a, valV kvs k, rfl, DGet.k h1, kk _ H _ S F (ExF.refl F) fs (.bl _) ?_⟩
  rw [val_mem]
  exact q
/-! ### d[k] = v -/
def wDPut (wd wy wv : WE) : WS := fun De ρ S => wv ρ S fun v ρ1 S1 => wd ρ1 S1 fun x ρ2 S2 => wy ρ2 S2 fun y ρ3 S3 => ∃ a ks ds k, x = .ref a ∧ S3 a = some (.dic ks ds) ∧ y = keyD k ∧ ks.length < sizeLine ∧ De.nx ρ3 (S3.set a (putDic k v ks ds))
theorem rs_dput (hd : RE K L td wd) (hy : RE K L ty wy) (hv : RE K L tv wv) : RS K L (sDPut td ty tv) (wDPut wd wy wv) := by
  intro F ρ S σ H De D m q l
  refine hv F ρ S σ H _ _ m q fun v H1 dv ρ1 S1 F1 e1 m1 r1 q1 => ?_
  refine hd F1 ρ1 S1 σ H1 _ _ m1 q1 fun x H2 dx ρ2 S2 F2 e2 m2 r2 q2 => ?_
  refine hy F2 ρ2 S2 σ H2 _ _ m2 q2 fun y H3 dy ρ3 S3 F3 e3 m3 r3 ⟨a, ks, ds, k, hx, hs, hy, hl, q3⟩ => ?_
  subst hx hy
  cases r2
  obtain rfl := rep_key r3
  obtain ⟨_, kvs, h1, h2, h3⟩ := m3.fs.st a _ hs
  subst h2
  rw [List.length_map] at hl
  refine ⟨a, _, rfl, DPut.k h1 hl, ?_⟩
  refine l.nx F3 ρ3 _ σ _ ((e1.trans e2).trans e3) (m3.step (ExF.refl F3) ?_) q3
  have rv : Rep K F3 dv v := r1.up (e2.trans e3)
  unfold putDic
  by_cases hk : hasK k (kvs.map (·.1)) = true
  · rw [if_pos hk]
    have e : putK kvs k v = kvs.map fun kv => if kv.1 = k then (kv.1, v) else kv := by
      unfold putK
      rw [valV_any, val_mem, if_pos hk]
    rw [e]
    exact m3.fs.write hs rfl ⟨_, upd_same, keys_repl kvs, reps_putD rv h3⟩
  · rw [if_neg hk]
    have e : putK kvs k v = kvs ++ [(k, v)] := by
      unfold putK
      rw [valV_any, val_mem, if_neg hk]
    rw [e]
    exact m3.fs.write hs rfl ⟨_, upd_same, by rw [List.map_append]; rfl, by rw [List.map_append]; exact h3.append (.cons rv .nil)⟩
theorem ds_dput (hu : X.A.units + 65 < cLine) (ho : DE X L o td wd) (hi : DE X L i ty wy) (hv : DE X L value tv wv) (hs : swapsWith value (some (.Subscript o i pos')) pos.line X.env = pure false := by rfl) :
    DS X L (.Assign [.Subscript o i pos'] value pos) (sDPut td ty tv) (wDPut wd wy wv) := ⟨ps_dput (by omega) ho.pe hi.pe hv.pe hs, rs_dput ho.re hi.re hv.re⟩
end
/-! ### readings, to rewrite with -/
theorem rd_ins {S : MS} {a : Addr} {C : Str} {ns : List Str} {ds : List D} (h : S a = some (.ins C ns ds)) : rd S (.ref a) = .obj C ns ds := by
  show rdM a (S a) = _
  rw [h]
  rfl
/-- what is read of an instance stays in a greater store -/
theorem rd_sub {S S' : MS} (s : Sub S S') {x : D} {C : Str} {ns : List Str} {ds : List D} (h : rd S x = .obj C ns ds) : rd S' x = .obj C ns ds := by
  cases x with
  | ref a =>
    cases e : S a with
    | none =>
      have : rdM a (S a) = D.obj C ns ds := h
      rw [e] at this
      cases this
    | some m =>
      have h1 : rdM a (S a) = D.obj C ns ds := h
      show rdM a (S' a) = _
      rw [s a m e, ← e]
      exact h1
  | _ => exact h
end DL
/-! DL22: comprehensions over a list that is given as what is made of another. -/
namespace DL
open PySem PySem.Spec PyProof.Rows L2
/-- [h x for x in l if c x], the list given as l.map f -/
theorem compL_fm {α : Type} {l : List α} {f : α → D} {g : MS → Prop} {wg : WG} {wt : WT} {we : DL.WE} {ρ0 : Rho} {S0 : MS} {Q : KV2} (h : α → D) (c : α → Bool) (hg : ∀ S, Sub S0 S → g S) (hz : l.length ≤ sizeLine)
    (hs : ∀ x ∈ l, ∀ S, Sub S0 S → ∀ (N : D → MS → Prop) (M : MS → Prop), (c x = true → N (h x) S) → (c x = false → M S) → wg (f x) ρ0 S fun ρ1 S1 => wt ρ1 S1 fun b ρ2 S2 => if b = true then we ρ2 S2 fun x _ S3 => N x S3 else M S2) (q : Q (.lst ((l.filter c).map h)) S0) :
    ∀ a, S0 a = none → compW a g wg wt we (fun S2 => endL false a S2 Q) ρ0 (l.map f) (S0.set a (.lst [])) := fun a ha => by
  refine compL_inv ha (fun dn td acc => ∃ dl tl, dl ++ tl = l ∧ dn = dl.map f ∧ td = tl.map f ∧ acc = (dl.filter c).map h) hg (fun dn d td acc ⟨dl, tl, e, e1, e2, ea⟩ N M hN hM => ?hs) (fun dn td acc ⟨dl, tl, e, e1, e2, ea⟩ hne => ?hz) (fun dn acc ⟨dl, tl, e, e1, e2, ea⟩ => ?hd) (l.map f) [] [] ⟨[], l, rfl, rfl, rfl, rfl⟩
  case hs =>
    obtain ⟨x, tl, rfl, rfl, rfl⟩ : ∃ x tl', tl = x :: tl' ∧ d = f x ∧ td = tl'.map f := by
      cases tl with
      | nil => cases e2
      | cons x tl => cases e2; exact ⟨x, tl, rfl, rfl, rfl⟩
    have hx : x ∈ l := by rw [← e]; simp
    refine hs x hx _ (Sub.set ha) _ _ (fun hc => ?_) (fun hc => ?_)
    · refine hN (h x) _ rfl ?_ ⟨dl ++ [x], tl, by rw [← e]; simp, by rw [e1]; simp, rfl, by rw [ea]; simp [hc]⟩
      rw [ea, List.length_map]
      have h1 := List.length_filter_le c dl
      have : l.length = dl.length + (tl.length + 1) := by rw [← e]; simp
      omega
    · exact hM _ rfl ⟨dl ++ [x], tl, by rw [← e]; simp, by rw [e1]; simp, rfl, by rw [ea]; simp [hc]⟩
  case hz =>
    rw [ea, List.length_map]
    have h0 := List.length_filter_le c dl
    have h1 : l.length = dl.length + tl.length := by rw [← e]; simp
    have h2 : 0 < tl.length := List.length_pos_iff.mpr fun z => hne (by rw [e2, z]; rfl)
    omega
  case hd =>
    have : tl = [] := by cases tl with
      | nil => rfl
      | cons x tl => cases e2
    subst this
    rw [List.append_nil] at e
    subst e ea
    exact endL_f ha q
/-- [h x for x in l], the list given as l.map f -/
theorem compL_mm {α : Type} {l : List α} {f : α → D} {g : MS → Prop} {wg : WG} {we : DL.WE} {ρ0 : Rho} {S0 : MS} {Q : KV2} (h : α → D) (hg : ∀ S, Sub S0 S → g S) (hz : l.length ≤ sizeLine)
    (hs : ∀ x ∈ l, ∀ S, Sub S0 S → ∀ N : D → MS → Prop, N (h x) S → wg (f x) ρ0 S fun ρ1 S1 => we ρ1 S1 fun x _ S3 => N x S3) (q : Q (.lst (l.map h)) S0) :
    ∀ a, S0 a = none → compW a g wg wYes we (fun S2 => endL false a S2 Q) ρ0 (l.map f) (S0.set a (.lst [])) := by
  refine compL_to (l.map h) (by rw [List.length_map, List.length_map]) hg (by rw [List.length_map]; exact hz) (fun i d x h1 h2 S sub N hN => ?_) q
  rw [List.getElem?_map] at h1 h2
  cases e : l[i]? with
  | none => rw [e] at h1; cases h1
  | some y =>
    rw [e] at h1 h2
    cases h1
    cases h2
    exact hs y (List.mem_of_getElem? e) S sub N hN
theorem compAllM {α : Type} {l : List α} {f : α → D} {g : MS → Prop} {wg : WG} {we : DL.WE} {ρ0 : Rho} {S0 : MS} {Q : KV2} (c : α → Bool) (hg : ∀ S, Sub S0 S → g S) (hz : l.length ≤ sizeLine)
    (hs : ∀ x ∈ l, ∀ S, Sub S0 S → ∀ N : D → MS → Prop, N (.bl (c x)) S → wg (f x) ρ0 S fun ρ1 S1 => we ρ1 S1 fun x _ S3 => N x S3) (q : Q (.bl (l.all c)) S0) :
    ∀ a, S0 a = none → compW a g wg wYes we (fun S2 => endL false a S2 fun d S3 => cAll (rd S3 d) S3 Q) ρ0 (l.map f) (S0.set a (.lst [])) := by
  refine compL_mm (Q := fun d S3 => cAll (rd S3 d) S3 Q) (fun x => .bl (c x)) hg hz hs ⟨l.map c, by rw [List.map_map]; rfl, ?_⟩
  rw [List.all_map]
  exact q
theorem compAnyM {α : Type} {l : List α} {f : α → D} {g : MS → Prop} {wg : WG} {we : DL.WE} {ρ0 : Rho} {S0 : MS} {Q : KV2} (c : α → Bool) (hg : ∀ S, Sub S0 S → g S) (hz : l.length ≤ sizeLine)
    (hs : ∀ x ∈ l, ∀ S, Sub S0 S → ∀ N : D → MS → Prop, N (.bl (c x)) S → wg (f x) ρ0 S fun ρ1 S1 => we ρ1 S1 fun x _ S3 => N x S3) (q : Q (.bl (l.any c)) S0) :
    ∀ a, S0 a = none → compW a g wg wYes we (fun S2 => endL false a S2 fun d S3 => cAny (rd S3 d) S3 Q) ρ0 (l.map f) (S0.set a (.lst [])) := by
  refine compL_mm (Q := fun d S3 => cAny (rd S3 d) S3 Q) (fun x => .bl (c x)) hg hz hs ⟨l.map c, by rw [List.map_map]; rfl, ?_⟩
  rw [List.any_map]
  exact q
theorem okD_rows {rs : List (List Int)} : okD (.lst (rs.map tupI)) = true := okL_mono (okL_lst (n := 1) fun d hd => by
  obtain ⟨r, _, rfl⟩ := List.mem_map.mp hd
  exact okL_row (Nat.le_refl 1) r) (by decide)
theorem okD_rowsT {rs : List (List Int)} : okD (.tup (rs.map tupI)) = true := okL_mono (okL_tup (n := 1) fun d hd => by
  obtain ⟨r, _, rfl⟩ := List.mem_map.mp hd
  exact okL_row (Nat.le_refl 1) r) (by decide)
theorem okD_row {r : List Int} : okD (tupI r) = true := okL_row (n := 64) (by decide) r
theorem eqD_nil_c {x : D} {xs : List D} : eqD (.lst (x :: xs)) (.lst []) = false := rfl
theorem eqD_nil_n : eqD (.lst []) (.lst []) = true := rfl
theorem okD_nil : okD (.lst []) = true := by decide +kernel
theorem eqD_nil_map {α : Type} {f : α → D} {l : List α} : eqD (.lst (l.map f)) (.lst []) = l.isEmpty := by cases l <;> rfl
theorem MS.set_id {S : MS} {a : Addr} {m : MO} (h : S a = some m) : S.set a m = S := by
  funext b
  unfold MS.set
  split
  · rename_i e; rw [e, h]
  · rfl
end DL
/-! DL23: dicts whose keys are nested tuples. -/
namespace DL
open PySem PySem.Spec PyProof.Rows L2
/-! ### keys -/
mutual
def nkD : NestedKey → D
  | .none => .non
  | .num i => .int i
  | .text x => .str x
  | .tup ks => .tup (nkDs ks)
def nkDs : List NestedKey → List D
  | [] => []
  | k :: ks => nkD k :: nkDs ks
end
mutual
def noTx : NestedKey → Bool
  | .none => true
  | .num _ => true
  | .text _ => false
  | .tup ks => noTxs ks
def noTxs : List NestedKey → Bool
  | [] => true
  | k :: ks => noTx k && noTxs ks
end
def isTk : NestedKey → Bool
  | .tup _ => true
  | _ => false
def okN (k : NestedKey) : Bool := isTk k && (noTx k && decide (k.depth ≤ 8))
section
variable {K : PySem.W.Frag} {F F' H : Hp} {S : MS}
mutual
theorem nkv_of : ∀ (k : NestedKey) (v : V), noTx k = true → Rep K F (nkD k) v → NkV K F k v
  | .none, _, _, h => by cases h; exact .none
  | .num i, _, _, h => by cases h; exact .num i
  | .text x, _, n, _ => absurd n Bool.false_ne_true
  | .tup ks, _, n, h => by
    cases h with
    | tup h1 h2 => exact .tup h1 (nkvs_of ks _ n h2)
theorem nkvs_of : ∀ (ks : List NestedKey) (vs : List V), noTxs ks = true → Reps K F (nkDs ks) vs → NkVs K F ks vs
  | [], _, _, h => by cases h; exact .nil
  | k :: ks, _, n, h => by
    have n' : (noTx k && noTxs ks) = true := n
    rw [Bool.and_eq_true] at n'
    cases h with
    | cons h1 h2 => exact .cons (nkv_of k _ n'.1 h1) (nkvs_of ks _ n'.2 h2)
end
mutual
theorem rep_nk : ∀ (k : NestedKey) (v : V), NkV K F k v → Rep K F (nkD k) v
  | .none, _, h => by cases h; exact .non
  | .num i, _, h => by cases h; exact .int i
  | .text x, _, h => by cases h
  | .tup ks, _, h => by
    cases h with
    | tup h1 h2 => exact .tup h1 (reps_nk ks _ h2)
theorem reps_nk : ∀ (ks : List NestedKey) (vs : List V), NkVs K F ks vs → Reps K F (nkDs ks) vs
  | [], _, h => by cases h; exact .nil
  | k :: ks, _, h => by
    cases h with
    | cons h1 h2 => exact .cons (rep_nk k _ h1) (reps_nk ks _ h2)
end
mutual
theorem hash_w (w w' : World) : ∀ (k : NestedKey) (v : V), NkV K F k v → k.hash w = k.hash w'
  | .none, _, _ => rfl
  | .num i, _, _ => rfl
  | .text x, _, h => by cases h
  | .tup ks, _, h => by
    cases h with
    | tup h1 h2 =>
      show reduceHash _ = reduceHash _
      rw [hashes_w w w' ks _ h2]
theorem hashes_w (w w' : World) : ∀ (ks : List NestedKey) (vs : List V), NkVs K F ks vs → NestedKey.hashes w ks = NestedKey.hashes w' ks
  | [], _, _ => rfl
  | k :: ks, _, h => by
    cases h with
    | cons h1 h2 =>
      show _ :: _ = _ :: _
      rw [hash_w w w' k _ h1, hashes_w w w' ks _ h2]
end
variable {X : Cx} {pins : List (Addr × Obj)} {σ : L2.St} {s : Shared}
mutual
theorem nk_is (I : Inv X pins σ H s) (e : ExF F H) : ∀ (k : NestedKey) (v : V) (u : Value), NkV X.K F k v → RelV v u → NestedIs s.heap k u
  | .none, _, u, h, r => by cases h; obtain rfl : u = .none := r; exact .none
  | .num i, _, u, h, r => by cases h; obtain ⟨t, rfl⟩ := r; exact .int i t
  | .text x, _, _, h, _ => by cases h
  | .tup ks, _, u, h, r => by
    cases h with
    | @tup _ a vs h1 h2 =>
      obtain rfl : u = .ref a := r
      obtain ⟨its, rv, ⟨o, ho, hc, n, hd⟩, _⟩ := I.tuple (exf_t e h1.sq)
      exact .tup ho hc hd (by simpa using nks_is I e ks vs its h2 rv)
theorem nks_is (I : Inv X pins σ H s) (e : ExF F H) : ∀ (ks : List NestedKey) (vs : List V) (us : List Value), NkVs X.K F ks vs → Vals vs us → NestedAll s.heap ks us
  | [], _, _, h, r => by cases h; cases r; exact .nil
  | k :: ks, _, _, h, r => by
    cases h with
    | cons h1 h2 =>
      cases r with
      | cons r1 r2 => exact .cons (nk_is I e k _ _ h1 r1) (nks_is I e ks _ _ h2 r2)
end
end
theorem nkD_tk {k : NestedKey} (h : isTk k = true) : ∃ ks, k = .tup ks := by
  cases k with
  | tup ks => exact ⟨ks, rfl⟩
  | none => cases h
  | num i => cases h
  | text x => cases h
theorem okN_iff {k : NestedKey} : okN k = true ↔ isTk k = true ∧ noTx k = true ∧ k.depth ≤ 8 := by
  unfold okN
  simp only [Bool.and_eq_true, decide_eq_true_eq]
/-! ### what stands -/
/-- at a the dict of kvs -/
def NkAt (K : PySem.W.Frag) (H : Hp) (a : Addr) (kvs : List (NestedKey × Addr × V)) : Prop := ∃ (F : Hp) (od : Obj), ExF F H ∧ H a = some (NkO a od) ∧ NkF a od kvs ∧ ∀ p ∈ kvs, NkV K F p.1 (.ref p.2.1)
/-- y is the key k -/
def NkK (K : PySem.W.Frag) (H : Hp) (k : NestedKey) (y : V) : Prop := ∃ F : Hp, ExF F H ∧ NkV K F k y ∧ okN k = true
def valN (kvs : List (NestedKey × Addr × V)) (k : NestedKey) : Option V := (kvs.find? fun p => decide (p.1 = k)).map (·.2.2)
abbrev KN : List (NestedKey × Addr × V) → List (NestedKey × Addr × Value) → Prop := Paired fun p q => p.1 = q.1 ∧ p.2.1 = q.2.1 ∧ RelV p.2.2 q.2.2
theorem KN.val {kvs : List (NestedKey × Addr × V)} {xs : List (NestedKey × Addr × Value)} (r : KN kvs xs) (k : NestedKey) : RelO (valN kvs k) ((atKey xs k).map (·.2)) := by
  induction r with
  | nil => exact True.intro
  | @cons p q ps qs h t ih =>
    obtain ⟨h1, _, h2⟩ := h
    by_cases e : p.1 = k
    · have e' : q.1 = k := h1.symm.trans e
      have b : atKey (q :: qs) k = some q.2 := by simp [atKey, List.find?_cons, e']
      have b2 : valN (p :: ps) k = some p.2.2 := by simp [valN, List.find?_cons, e]
      rw [b2, b]; exact h2
    · have e' : ¬ q.1 = k := fun z => e (h1.trans z)
      have b : atKey (q :: qs) k = atKey qs k := by simp [atKey, List.find?_cons, e']
      have b2 : valN (p :: ps) k = valN ps k := by simp [valN, List.find?_cons, e]
      rw [b2, b]; exact ih
def putN (kvs : List (NestedKey × Addr × V)) (k : NestedKey) (b : Addr) (v : V) : List (NestedKey × Addr × V) :=
  if (valN kvs k).isSome = true then kvs.map fun p => if p.1 = k then (p.1, p.2.1, v) else p else kvs ++ [(k, b, v)]
theorem KN.put {kvs : List (NestedKey × Addr × V)} {xs : List (NestedKey × Addr × Value)} (r : KN kvs xs) (k : NestedKey) {b : Addr} {y : V} {u : Value} (ry : RelV y u) : KN (putN kvs k b y) (storedH xs k b u) := by
  have e : (valN kvs k).isSome = (atKey xs k).isSome := by rw [(r.val k).isSome_eq, Option.isSome_map]
  unfold putN storedH
  rw [e]
  by_cases q : (atKey xs k).isSome = true
  · rw [if_pos q, if_pos q]
    clear e q
    induction r with
    | nil => exact .nil
    | @cons p q ps qs h t ih =>
      rw [List.map_cons, List.map_cons]
      refine .cons ?_ ih
      obtain ⟨h1, h2, h3⟩ := h
      unfold putAt
      by_cases e : p.1 = k
      · rw [if_pos e, if_pos (h1.symm.trans e)]; exact ⟨h1, h2, ry⟩
      · rw [if_neg e, if_neg (fun z => e (h1.trans z))]; exact ⟨h1, h2, h3⟩
  · rw [if_neg q, if_neg q]; exact Paired.snoc r ⟨rfl, rfl, ry⟩
theorem KN.mem {kvs : List (NestedKey × Addr × V)} {xs : List (NestedKey × Addr × Value)} (r : KN kvs xs) : ∀ q ∈ xs, ∃ p ∈ kvs, p.1 = q.1 ∧ p.2.1 = q.2.1 := by
  induction r with
  | nil => exact fun _ h => nomatch h
  | @cons p q ps qs h t ih =>
    intro x hx
    rcases List.mem_cons.mp hx with rfl | hx
    · exact ⟨p, List.mem_cons_self, h.1, h.2.1⟩
    · obtain ⟨y, hy, e⟩ := ih x hx
      exact ⟨y, List.mem_cons_of_mem _ hy, e⟩
section
variable {X : Cx} {pins : List (Addr × Obj)} {σ : L2.St} {H : Hp} {s : Shared} {a : Addr} {kvs : List (NestedKey × Addr × V)} {k : NestedKey} {y v : V} {u r : Value}
theorem NkAt.dict (I : Inv X pins σ H s) (d : NkAt X.K H a kvs) : ∃ xs, s.heap.DictOfH (nestedKind X.prog X.w) a xs ∧ KN kvs xs ∧ (a == sysModules) = false ∧ kvs.length ≤ sizeLine := by
  obtain ⟨F, od, e, h1, ⟨hx, hs, ⟨es, ep, xs, hd, he, hp, hn⟩, hdep, hz⟩, hk⟩ := d
  obtain ⟨ho, _, _⟩ := I.hok a _ h1
  refine ⟨xs, ⟨od, es, ep, ho, hx, hd, he X.w, fun x hm => ?_, hn⟩, hp, hs, hz⟩
  obtain ⟨p, hp1, e1, e2⟩ := KN.mem hp x hm
  rw [← e1, ← e2]
  exact ⟨nk_is I e _ _ _ (hk p hp1) rfl, hdep p hp1⟩
theorem NkK.key (I : Inv X pins σ H s) (h : NkK X.K H k y) (ry : RelV y u) : ∃ b, y = .ref b ∧ u = .ref b ∧ (nestedKind X.prog X.w).is s.heap k b := by
  obtain ⟨F, e, hk, ok⟩ := h
  obtain ⟨h1, h2, h3⟩ := okN_iff.mp ok
  obtain ⟨ks, rfl⟩ := nkD_tk h1
  have hk' := hk
  cases hk' with
  | @tup _ b vs h4 h5 =>
    obtain rfl : u = .ref b := ry
    exact ⟨b, rfl, rfl, nk_is I e _ _ _ hk rfl, h3⟩
/-- d[y], there -/
def rNGet (K : PySem.W.Frag) : R2 := fun x y H Q => ∃ a kvs k v, x = .ref a ∧ NkAt K H a kvs ∧ NkK K H k y ∧ valN kvs k = some v ∧ Q v H
theorem ix_nget (hu : X.A.units + 10 < cLine) : IxR X (rNGet X.K) := by
  intro value slice pins s σ H x y v u Q I rx ry h hs
  obtain ⟨a, kvs, k, z, rfl, hd, hk, hv, q⟩ := h
  obtain rfl : v = Value.ref a := rx
  obtain ⟨xs, hm, kn, hsys, hz⟩ := hd.dict I
  obtain ⟨b, rfl, rfl, hkey⟩ := hk.key I ry
  obtain ⟨w', hw, rw'⟩ := RelO.some_of (v := z) (o := (atKey xs k).map (·.2)) (by rw [← hv]; exact kn.val k)
  obtain ⟨p, hp, hp2⟩ := Option.map_eq_some_iff.mp hw
  refine tail_any hm.typeIs slot_dict_getitem.lookup ?_ hs
  refine wpAny_getItem_heap (by show X.A.in1.units + 8 < cLine; simp only [Around.in1_units]; omega) hkey hm hp ?_
  rw [hp2]
  exact ⟨z, H, I.tok _, rw', q⟩
/-- y in d -/
def rNIn (K : PySem.W.Frag) (neg : Bool) : R2 := fun y x H Q => ∃ a kvs k, x = .ref a ∧ NkAt K H a kvs ∧ NkK K H k y ∧ Q (.bl (if neg then !(valN kvs k).isSome else (valN kvs k).isSome)) H
theorem op_nIn (hu : X.A.units + 10 < cLine) : OpR X (compareOp .In) (rNIn X.K false) := by
  intro pins s σ H y x v u Q I ry rx h
  obtain ⟨a, kvs, k, rfl, hd, hk, q⟩ := h
  obtain rfl : u = Value.ref a := rx
  obtain ⟨xs, hm, kn, hsys, hz⟩ := hd.dict I
  obtain ⟨b, rfl, rfl, hkey⟩ := hk.key I ry
  refine wpAny_in_heap (by show X.A.in1.units + 8 < cLine; simp only [Around.in1_units]; omega) hkey hsys hm ?_
  have e := (kn.val k).isSome_eq
  rw [Option.isSome_map] at e
  rw [← e]
  exact ⟨.bl (valN kvs k).isSome, H, I.tok _, rfl, q⟩
theorem op_nNotIn (hu : X.A.units + 10 < cLine) : OpR X (compareOp .NotIn) (rNIn X.K true) := by
  intro pins s σ H y x v u Q I ry rx h
  obtain ⟨a, kvs, k, rfl, hd, hk, q⟩ := h
  obtain rfl : u = Value.ref a := rx
  obtain ⟨xs, hm, kn, hsys, hz⟩ := hd.dict I
  obtain ⟨b, rfl, rfl, hkey⟩ := hk.key I ry
  refine wpAny_notIn_heap (by show X.A.in1.units + 8 < cLine; simp only [Around.in1_units]; omega) hkey hsys hm ?_
  have e := (kn.val k).isSome_eq
  rw [Option.isSome_map] at e
  rw [← e]
  exact ⟨.bl (!(valN kvs k).isSome), H, I.tok _, rfl, q⟩
/-- the dict's object, written anew -/
theorem nk_write {h' : Heap} {t' : Nat} {od : Obj} (I : Inv X pins σ H s) (hm : ∃ o, H a = some (NkO a o)) (hs : Heap.SameBut a s.heap h') (ho : h'.get? a = some od) : Inv X pins σ (upd H a (NkO a od)) { s with heap := h', toks := t' } := by
  obtain ⟨o, e⟩ := hm
  exact d_write I (by rw [e]; exact True.intro) hs ⟨od, ho⟩ ⟨ho, ⟨od, ho⟩, fun h1 h2 z st => st _ z⟩
theorem putN_len (b : Addr) : (putN kvs k b v).length ≤ kvs.length + 1 := by
  unfold putN
  split <;> simp
theorem putN_mem {b : Addr} {q : NestedKey × Addr × V} (h : q ∈ putN kvs k b v) : (∃ p ∈ kvs, p.1 = q.1 ∧ p.2.1 = q.2.1) ∨ (q.1 = k ∧ q.2.1 = b) := by
  unfold putN at h
  split at h
  · obtain ⟨p, hp, rfl⟩ := List.mem_map.mp h
    refine .inl ⟨p, hp, ?_⟩
    split <;> exact ⟨rfl, rfl⟩
  · rcases List.mem_append.mp h with h | h
    · exact .inl ⟨q, h, rfl, rfl⟩
    · rw [List.mem_singleton.mp h]
      exact .inr ⟨rfl, rfl⟩
/-- d[y] = v -/
theorem nk_setItem {Q : Unit → Shared → Prop} {F : Hp} {od : Obj} (hu : X.A.units + 10 < cLine) (I : Inv X pins σ H s) (e : ExF F H) (h1 : H a = some (NkO a od)) (h2 : NkF a od kvs) (h3 : ∀ p ∈ kvs, NkV X.K F p.1 (.ref p.2.1)) {b : Addr}
    (hk : NkV X.K F k (.ref b)) (ok : okN k = true) (hl : kvs.length < sizeLine) (rv : RelV v r) (h : ∀ od' s', NkF a od' (putN kvs k b v) → Inv X pins σ (upd H a (NkO a od')) s' → Q () s') : wpAny (model X.prog X.w) X.A (setItem (.ref a) (.ref b) r) Q X.xe s := by
  obtain ⟨xs, hm, kn, hsys, hz⟩ := NkAt.dict I ⟨F, od, e, h1, h2, h3⟩
  obtain ⟨_, _, hdp⟩ := okN_iff.mp ok
  have hkey : (nestedKind X.prog X.w).is s.heap k b := ⟨nk_is I e _ _ _ hk rfl, hdp⟩
  refine wpAny_setItem_heap (hsz := by rw [← Paired.length kn]; exact hz) (by show X.A.in1.units + 8 < cLine; simp only [Around.in1_units]; omega) hkey hm fun h' hm' hs => ?_
  obtain ⟨od', es, ep, ho, hx, hd, he, his, hn⟩ := hm'
  have knp := kn.put (k := k) (b := b) rv
  refine h od' _ ⟨hx, hsys, ⟨es, ep, _, hd, fun w => ?_, knp, hn⟩, fun p hp => ?_, ?_⟩ (nk_write I ⟨od, h1⟩ hs ho)
  · rw [he]
    refine List.map_congr_left fun x hx => ?_
    obtain ⟨p, hp, e1, e2⟩ := KN.mem knp x hx
    have hv : ∃ v, NkV X.K F x.1 v := by
      rcases putN_mem hp with ⟨p', hp', e3, _⟩ | ⟨e3, _⟩
      · rw [← e1, ← e3]; exact ⟨_, h3 p' hp'⟩
      · rw [← e1, e3]; exact ⟨_, hk⟩
    obtain ⟨v0, hv⟩ := hv
    show DictEntry.mk _ _ _ = DictEntry.mk _ _ _
    rw [show (nestedKind X.prog X.w).hash x.1 = x.1.hash w from hash_w X.w w x.1 v0 hv]
  · rcases putN_mem hp with ⟨p', hp', e3, _⟩ | ⟨e3, _⟩
    · rw [← e3]; exact h2.dep p' hp'
    · rw [e3]; exact hdp
  · have := putN_len (kvs := kvs) (k := k) (v := v) b
    omega
end
/-! ### over data -/
def lookN : List NestedKey → List D → NestedKey → Option D
  | k' :: ks, d :: ds, k => if k' = k then some d else lookN ks ds k
  | _, _, _ => none
def putNs (k : NestedKey) (v : D) : List NestedKey → List D → List D
  | k' :: ks, d :: ds => (if k' = k then v else d) :: putNs k v ks ds
  | _, ds => ds
def hasN (k : NestedKey) (ks : List NestedKey) : Bool := ks.any fun x => decide (x = k)
def putDicT (k : NestedKey) (v : D) (ks : List NestedKey) (ds : List D) : MO := if hasN k ks = true then .dicT ks (putNs k v ks ds) else .dicT (ks ++ [k]) (ds ++ [v])
section
variable {K : PySem.W.Frag} {F H : Hp} {S : MS}
theorem reps_lookN {k : NestedKey} : ∀ {kvs : List (NestedKey × Addr × V)} {ds : List D} {d : D}, Reps K F ds (kvs.map (·.2.2)) → lookN (kvs.map (·.1)) ds k = some d → ∃ v, valN kvs k = some v ∧ Rep K F d v
  | [], _, _, _, e => by simp [lookN] at e
  | p :: kvs, _, d, r, e => by
    cases r with
    | @cons d' _ ds _ r1 r2 =>
      have e' : (if p.1 = k then some d' else lookN (kvs.map (·.1)) ds k) = some d := e
      by_cases h : p.1 = k
      · rw [if_pos h] at e'
        cases e'
        exact ⟨p.2.2, by simp [valN, List.find?_cons, h], r1⟩
      · rw [if_neg h] at e'
        obtain ⟨v, h1, h2⟩ := reps_lookN r2 e'
        refine ⟨v, ?_, h2⟩
        rw [← h1]
        simp [valN, List.find?_cons, h]
theorem valN_mem {k : NestedKey} (kvs : List (NestedKey × Addr × V)) : (valN kvs k).isSome = hasN k (kvs.map (·.1)) := by
  unfold valN hasN
  rw [Option.isSome_map, List.any_map, Bool.eq_iff_iff, List.find?_isSome, List.any_eq_true]
  exact Iff.rfl
theorem reps_putNs {k : NestedKey} {v : V} {y : D} (ry : Rep K F y v) : ∀ {kvs : List (NestedKey × Addr × V)} {ds : List D}, Reps K F ds (kvs.map (·.2.2)) → Reps K F (putNs k y (kvs.map (·.1)) ds) ((kvs.map fun p => if p.1 = k then (p.1, p.2.1, v) else p).map (·.2.2))
  | [], _, r => by cases r; exact .nil
  | p :: kvs, _, r => by
    cases r with
    | @cons d' _ ds _ r1 r2 =>
      show Reps K F ((if p.1 = k then y else d') :: putNs k y (kvs.map (·.1)) ds) ((if p.1 = k then (p.1, p.2.1, v) else p).2.2 :: _)
      refine .cons ?_ (reps_putNs ry r2)
      by_cases h : p.1 = k
      · rw [if_pos h, if_pos h]; exact ry
      · rw [if_neg h, if_neg h]; exact r1
theorem keysN_repl {k : NestedKey} {v : V} (kvs : List (NestedKey × Addr × V)) : (kvs.map fun p => if p.1 = k then (p.1, p.2.1, v) else p).map (·.1) = kvs.map (·.1) := by
  rw [List.map_map]
  refine List.map_congr_left fun p _ => ?_
  show (if p.1 = k then (p.1, p.2.1, v) else p).1 = p.1
  split <;> rfl
theorem rep_of_T {k : NestedKey} {vy : V} (ok : okN k = true) (h : RepT K F H (nkD k) vy) : NkV K F k vy := by
  obtain ⟨h1, h2, h3⟩ := okN_iff.mp ok
  obtain ⟨ks, rfl⟩ := nkD_tk h1
  obtain ⟨a, vs, rfl, _, _, hr⟩ := h
  exact nkv_of _ _ h2 hr
variable {X : Cx} {L : Lk} {o i e value : Expr} {td ty tv : TE} {wd wy wv : WE} {pos pos' : Pos}
/-! ### {} that may change -/
def tDNewN : TE := fun _ H Q => ∀ p od, H p = none → NkF p od [] → Q (.ref p) (upd H p (NkO p od))
theorem pe_dnewN : PE X (.Dict [] [] pos) tDNewN := ⟨fun pins s σ H Q I h =>
  wpAny_Dict_empty ⟨.ref s.heap.objs.size, _, I.laid (a := s.heap.objs.size) (o := NkO s.heap.objs.size { cls := .type "dict", data := .dict #[] }) (t' := s.toks) (fun _ _ q => Heap.get?_push_of_some _ q) (Nat.le_refl _)
    ⟨Heap.get?_push_size _ rfl, ⟨_, Heap.get?_push_size _ rfl⟩, fun h1 h2 z st => st _ z⟩, rfl,
    h _ _ (I.hok.fresh (Nat.le_refl _)) ⟨⟨rfl, rfl, rfl⟩, beq_eq_false_iff_ne.mpr (Ne.symm (Nat.ne_of_lt I.big)), ⟨#[], 0, [], rfl, fun _ => rfl, .nil, List.nodup_nil⟩, fun _ h => (nomatch h), Nat.zero_le _⟩⟩⟩
def wDicTN : WE := fun ρ S Q => ∀ a, S a = none → Q (.ref a) ρ (S.set a (.dicT [] []))
theorem re_dicTN : RE K L tDNewN wDicTN := by
  intro F ρ S σ H Q R m q k p od hp hf
  obtain ⟨sp, fp⟩ := m.fs.notS hp
  exact k _ _ _ ρ _ F (ExF.refl F) (m.step (ExF.refl F) (m.fs.alloc (m := .dicT [] []) hp rfl ⟨od, [], upd_same, hf, rfl, fun _ h => (nomatch h), .nil⟩)) (.ref p) (q p sp)
theorem de_dicTN : DE X L (.Dict [] [] pos) tDNewN wDicTN := ⟨pe_dnewN, re_dicTN⟩
/-! ### d[k] -/
def wNGet : D → D → MS → KV2 → Prop := fun x y S Q => ∃ ks ds k d, x = .dicT ks ds ∧ y = nkD k ∧ okN k = true ∧ lookN ks ds k = some d ∧ Q d S
theorem ro_nget : RO2 K (rNGet K) wNGet := by
  rintro F S H x y vx vy Q R fs rx ry ⟨ks, ds, k, d, rfl, rfl, ok, e, q⟩ kk
  obtain ⟨a, od, kvs, rfl, h1, h2, h3, h4, h5⟩ := rx
  subst h3
  obtain ⟨v, h6, h7⟩ := reps_lookN h5 e
  exact ⟨a, kvs, k, v, rfl, ⟨F, od, fs.fr, h1, h2, h4⟩, ⟨F, fs.fr, rep_of_T ok ry, ok⟩, h6, kk v H d S F (ExF.refl F) fs h7 q⟩
theorem de_nget (K : PySem.W.Frag) (hu : X.A.units + 65 < cLine) (ho : DE X L o td wd) (hi : DE X L i ty wy) (hs : PlainIx i := by exact fun _ _ => rfl) (hK : X.K = K := by rfl) : DE X L (.Subscript o i pos) (tOp (rNGet K) td ty) (wOp wNGet wd wy) := by
  subst hK
  exact ⟨pe_ix (ix_nget (by omega)) ho.pe hi.pe hs, re_op ro_nget ho.re hi.re⟩
/-! ### k in d -/
def wNIn (neg : Bool) : D → D → MS → KV2 → Prop := fun y x S Q => ∃ ks ds k, x = .dicT ks ds ∧ y = nkD k ∧ okN k = true ∧ Q (.bl (if neg then !hasN k ks else hasN k ks)) S
theorem ro_nIn (neg : Bool) : RO2 K (rNIn K neg) (wNIn neg) := by
  rintro F S H y x vy vx Q R fs ry rx ⟨ks, ds, k, rfl, rfl, ok, q⟩ kk
  obtain ⟨a, od, kvs, rfl, h1, h2, h3, h4, h5⟩ := rx
  subst h3
  refine ⟨a, kvs, k, rfl, ⟨F, od, fs.fr, h1, h2, h4⟩, ⟨F, fs.fr, rep_of_T ok ry, ok⟩, kk _ H _ S F (ExF.refl F) fs (.bl _) ?_⟩
  rw [valN_mem]
  exact q
theorem op_nInK (K : PySem.W.Frag) (hu : X.A.units + 65 < cLine) (hK : X.K = K := by rfl) : OpR X (compareOp .In) (rNIn K false) := by subst hK; exact op_nIn (by omega)
theorem op_nNotInK (K : PySem.W.Frag) (hu : X.A.units + 65 < cLine) (hK : X.K = K := by rfl) : OpR X (compareOp .NotIn) (rNIn K true) := by subst hK; exact op_nNotIn (by omega)
/-! ### d[k] = v -/
def sNPut (K : PySem.W.Frag) (td ty tv : TE) : TS := fun D σ H => tv σ H fun v H1 => td σ H1 fun x H2 => ty σ H2 fun y H3 => ∃ F a od kvs k b, x = .ref a ∧ ExF F H3 ∧ H3 a = some (NkO a od) ∧ NkF a od kvs ∧ (∀ p ∈ kvs, NkV K F p.1 (.ref p.2.1)) ∧
  y = .ref b ∧ NkV K F k (.ref b) ∧ okN k = true ∧ kvs.length < sizeLine ∧ ∀ od', NkF a od' (putN kvs k b v) → D.nx σ (upd H3 a (NkO a od'))
theorem ps_nput (hu : X.A.units + 65 < cLine) (ho : PE X o td) (hi : PE X i ty) (hv : PE X value tv) (hs : swapsWith value (some (.Subscript o i pos')) pos.line X.env = pure false) :
    PS X (.Assign [.Subscript o i pos'] value pos) (sNPut X.K td ty tv) := by
  refine ⟨fun pins s σ H D I h => ?_⟩
  refine wpAny_Assign_Subscript (thn (hv.run pins s σ H _ I h) fun r s1 ⟨v, H1, I1, rv, q1⟩ => thn (ho.run pins s1 σ H1 _ I1 q1) fun u s2 ⟨x, H2, I2, rx, q2⟩ => thn (hi.run pins s2 σ H2 _ I2 q2) fun iv s3 ⟨y, H3, I3, ry, F, a, od, kvs, k, b, ex, e, h1, h2, h3, ey, hk, ok, hl, q3⟩ => ?_) hs
  subst ex ey
  obtain rfl : u = Value.ref a := rx
  obtain rfl : iv = Value.ref b := ry
  exact nk_setItem (by omega) I3 e h1 h2 h3 hk ok hl rv fun od' s4 hf I4 => ⟨σ, _, I4, q3 od' hf⟩
def wNPut (wd wy wv : WE) : WS := fun De ρ S => wv ρ S fun v ρ1 S1 => wd ρ1 S1 fun x ρ2 S2 => wy ρ2 S2 fun y ρ3 S3 => ∃ a ks ds k, x = .ref a ∧ S3 a = some (.dicT ks ds) ∧ y = nkD k ∧ okN k = true ∧ ks.length < sizeLine ∧ De.nx ρ3 (S3.set a (putDicT k v ks ds))
theorem rs_nput (hd : RE K L td wd) (hy : RE K L ty wy) (hv : RE K L tv wv) : RS K L (sNPut K td ty tv) (wNPut wd wy wv) := by
  intro F ρ S σ H De D m q l
  refine hv F ρ S σ H _ _ m q fun v H1 dv ρ1 S1 F1 e1 m1 r1 q1 => ?_
  refine hd F1 ρ1 S1 σ H1 _ _ m1 q1 fun x H2 dx ρ2 S2 F2 e2 m2 r2 q2 => ?_
  refine hy F2 ρ2 S2 σ H2 _ _ m2 q2 fun y H3 dy ρ3 S3 F3 e3 m3 r3 ⟨a, ks, ds, k, hx, hs, hy, ok, hl, q3⟩ => ?_
  subst hx hy
  cases r2
  obtain ⟨h1, h2, h3⟩ := okN_iff.mp ok
  have hk := nkv_of k y h2 r3
  obtain ⟨ks', rfl⟩ := nkD_tk h1
  have hk' := hk
  cases hk' with
  | @tup _ b vs _ _ =>
    obtain ⟨_, od, kvs, k1, k2, k3, k4, k5⟩ := m3.fs.st a _ hs
    subst k3
    rw [List.length_map] at hl
    refine ⟨F3, a, od, kvs, .tup ks', b, rfl, m3.fs.fr, k1, k2, k4, rfl, hk, ok, hl, fun od' hf => ?_⟩
    refine l.nx F3 ρ3 _ σ _ ((e1.trans e2).trans e3) (m3.step (ExF.refl F3) ?_) q3
    have rv : Rep K F3 dv v := r1.up (e2.trans e3)
    have keys : ∀ p ∈ putN kvs (.tup ks') b v, NkV K F3 p.1 (.ref p.2.1) := fun p hp => by
      rcases putN_mem hp with ⟨p', hp', e3, e4⟩ | ⟨e3, e4⟩
      · rw [← e3, ← e4]; exact k4 p' hp'
      · rw [e3, e4]; exact hk
    unfold putDicT
    by_cases hh : hasN (.tup ks') (kvs.map (·.1)) = true
    · rw [if_pos hh]
      have e : putN kvs (.tup ks') b v = kvs.map fun p => if p.1 = .tup ks' then (p.1, p.2.1, v) else p := by
        unfold putN
        rw [valN_mem, if_pos hh]
      rw [e] at hf keys
      exact m3.fs.write hs rfl ⟨od', _, upd_same, hf, keysN_repl kvs, keys, reps_putNs rv k5⟩
    · rw [if_neg hh]
      have e : putN kvs (.tup ks') b v = kvs ++ [(.tup ks', b, v)] := by
        unfold putN
        rw [valN_mem, if_neg hh]
      rw [e] at hf keys
      exact m3.fs.write hs rfl ⟨od', _, upd_same, hf, by rw [List.map_append]; rfl, keys, by rw [List.map_append]; exact k5.append (.cons rv .nil)⟩
theorem ds_nput (K : PySem.W.Frag) (hu : X.A.units + 65 < cLine) (ho : DE X L o td wd) (hi : DE X L i ty wy) (hv : DE X L value tv wv) (hs : swapsWith value (some (.Subscript o i pos')) pos.line X.env = pure false := by rfl) (hK : X.K = K := by rfl) :
    DS X L (.Assign [.Subscript o i pos'] value pos) (sNPut K td ty tv) (wNPut wd wy wv) := by
  subst hK
  exact ⟨ps_nput hu ho.pe hi.pe hv.pe hs, rs_nput ho.re hi.re hv.re⟩
/-! ### len(d) -/
def rLenN (K : PySem.W.Frag) : List V → Hp → VK → Prop := fun xs H Q => ∃ (p : Addr) (kvs : List (NestedKey × Addr × V)), xs = [.ref p] ∧ NkAt K H p kvs ∧ Q (.int ((kvs.length : Nat) : Int)) H
theorem call_lenN (K : PySem.W.Frag) (hK : X.K = K := by rfl) : CallR X (.builtin "len") (rLenN K) := by
  subst hK
  intro pins s σ H xs us Q I r h
  obtain ⟨p, kvs, rfl, hp, q⟩ := h
  obtain ⟨u, rfl, rx⟩ := vals1 r
  obtain rfl : u = .ref p := rx
  obtain ⟨ys, dd, rel, hd, z⟩ := hp.dict I
  have hl : kvs.length = ys.length := Paired.length rel
  refine call_len_dictH hd dd (by rw [← hl]; rw [sizeLine_eq] at z; omega) ?_
  rw [← hl]
  exact ⟨.int ((kvs.length : Nat) : Int), H, I.tok _, ⟨_, rfl⟩, q⟩
def cLenN : D → MS → KV2 → Prop := fun x S Q => ∃ ks ds, x = .dicT ks ds ∧ Q (.int (ks.length : Nat)) S
theorem roc_lenN : ROc K (rLenN K) (w1 cLenN) := roc1 fun F S H x v Q R fs rx ⟨ks, ds, hx, q⟩ k => by
  subst hx
  obtain ⟨a, od, kvs, rfl, h1, h2, h3, h4, h5⟩ := rx
  subst h3
  rw [List.length_map] at q
  exact ⟨a, kvs, rfl, ⟨F, od, fs.fr, h1, h2, h4⟩, k _ H _ S F (ExF.refl F) fs (.int _) q⟩
end
end DL
/-! DL24: dicts walked, sorted, listed; get; dict comprehensions. -/
namespace DL
open PySem PySem.Spec PyProof.Rows L2
/-! ### a dict that changes no more -/
section
variable {K : PySem.W.Frag} {F F' H H' : Hp} {S S' : MS} {L : Lk}
theorem FS.freezeT (x : FS K F S H) {p : Addr} {ks : List NestedKey} {ds : List D} (hp : S p = some (.dicT ks ds)) : ∃ F', ExF F F' ∧ Rep K F' (.dicT ks ds) (.ref p) ∧ FS K F' (S.del p) H := by
  obtain ⟨fp, od, kvs, e, hf, hk, hn, r⟩ := x.st p _ hp
  have ex : ExF F (upd F p (NkO p od)) := ExF.new fp
  refine ⟨upd F p (NkO p od), ex, .dicT upd_same hf hk (fun q hq => NkV.mono ex _ _ (hn q hq)) (r.up ex), fun a u h => ?_, fun a m h => ?_, fun a b u v h1 h2 => x.one a b u v (Sub.del a u h1) (Sub.del b v h2)⟩
  · by_cases ha : a = p
    · subst ha
      rw [upd_same] at h
      rw [e]
      exact h
    · rw [upd_ne ha] at h
      exact x.fr a u h
  · have h0 := Sub.del a m h
    have ha : a ≠ p := fun z => by
      subst z
      simp only [MS.del, if_pos] at h
      cases h
    obtain ⟨f, k⟩ := x.st a m h0
    have ne : ∀ c, S c = none → c ≠ p := fun c z q => by
      rw [q, hp] at z
      cases z
    refine ⟨by rw [upd_ne ha]; exact f, mok_move k ex rfl fun c h1 h2 h3 h4 => ⟨by rw [upd_ne (ne c h2)]; exact h1, ?_, rfl⟩⟩
    simp only [MS.del, if_neg (ne c h2)]
    exact h2
def wVarFD (i : Nat) : WE := fun ρ S Q => ∃ a ks ds, ρ[i]? = some (some (.ref a)) ∧ S a = some (.dicT ks ds) ∧ Q (.dicT ks ds) (ρ.set i (some (.dicT ks ds))) (S.del a)
theorem re_varFD {i : Nat} : RE K L (tVar i) (wVarFD i) := by
  rintro F ρ S σ H Q R m ⟨a, ks, ds, h, hs, q⟩ k
  obtain ⟨v, hv, r⟩ := m.sl i _ h
  cases r
  obtain ⟨F', ex, rr, x⟩ := m.fs.freezeT hs
  exact ⟨_, hv, k _ H _ _ _ _ ex ((m.step ex x).view hv rr) rr q⟩
end
section
variable {X : Cx} {L : Lk} {pos : Pos}
theorem de_varFD (i : Nat) {x : Str} (hN : X.N[i]? = some x := by rfl) (hv : Vis X.env.scope x := by first | exact Or.inl rfl | exact Or.inr (Or.inl rfl) | exact Or.inr (Or.inr rfl)) (hd : (x == ("__debug__" : Str)) = false := by decide)
    (hcd : (x == ("__classdict__" : Str)) = false := by decide) : DE X L (.Name x pos) (tVar i) (wVarFD i) := ⟨pe_var hN hv hd hcd, re_varFD⟩
end
/-! ### for k in d -/
def ItN (d : Addr) (o : Obj) (kvs : List (NestedKey × Addr × V)) : It :=
  ⟨fun i H => (H d = some (NkO d o) ∧ NkF d o kvs) ∧ i < kvs.length, fun i H x H' => H' = H ∧ ∃ p, kvs[i]? = some p ∧ x = .ref p.2.1, fun i H => (H d = some (NkO d o) ∧ NkF d o kvs) ∧ kvs.length ≤ i⟩
theorem NkF.raw {a : Addr} {od : Obj} {kvs : List (NestedKey × Addr × V)} (f : NkF a od kvs) (w : World) : ∃ (es : Array DictEntry) (ep : Nat), od.data = .dict es ep ∧ es.size = kvs.length ∧ ∀ (i : Nat) (p : NestedKey × Addr × V), kvs[i]? = some p → ∃ en : DictEntry, es[i]? = some en ∧ en.key = .ref p.2.1 := by
  obtain ⟨es, ep, xs, hd, he, hp, hn⟩ := f.dat
  have hl : es.size = xs.length := by rw [← Array.length_toList, he w, List.length_map]
  have hl2 : kvs.length = xs.length := Paired.length hp
  refine ⟨es, ep, hd, by omega, fun i p e => ?_⟩
  obtain ⟨b, hb, e1, e2, _⟩ := paired_get hp e
  refine ⟨⟨b.1.hash w, .ref b.2.1, b.2.2⟩, ?_, by rw [e2]⟩
  rw [← Array.getElem?_toList, he w, List.getElem?_map, hb]
  rfl
section
variable {P : Program} {w : World} {K : PySem.W.Frag} {tg : Expr} {d : Addr} {o : Obj} {es : Array DictEntry} {ep : Nat}
theorem turn_keysN {kvs : List (NestedKey × Addr × V)} (it : Addr) (hod : o.data = .dict es ep) : Turn P w K tg (ItN d o kvs) [it] it (fun i h => h.IsKeyIter it d i kvs.length ep) where
  mem := List.mem_singleton.mpr rfl
  obj := fun i h st b hb => by
    obtain rfl : b = it := List.mem_singleton.mp hb
    obtain ⟨oi, e, _, dd⟩ := st
    exact ⟨oi, e, fun v z => by rw [dd] at z; exact Data.noConfusion z⟩
  keep := fun i h h' st k => st.at (k it (List.mem_singleton.mpr rfl))
  item := fun X hP hw hK hc i pins s σ H E I hf st hg => by
    subst hP hw hK
    obtain ⟨f0, f1, f2, f3, f4, f5⟩ := hf it (List.mem_singleton.mpr rfl)
    obtain ⟨⟨hd, nf⟩, hi⟩ := hg
    obtain ⟨es', ep', hdt, hsz, ent⟩ := nf.raw X.w
    obtain ⟨rfl, rfl⟩ := dict_ep hod hdt
    obtain ⟨en, hen, hkey⟩ := ent i kvs[i] (List.getElem?_eq_getElem hi)
    refine next_key_item st (I.hok d _ hd).1 hdt hsz hen fun h' st' sb => ?_
    obtain ⟨oi, e, c, dd⟩ := id st'
    have I1 : Inv X pins σ H { s with heap := h' } := I.turned (t' := s.toks) (fun b ob hb z => (sb.2 b hb).trans z) f0 f1 f3 f4 f5
    exact ⟨en.key, rfl, go_of (s := { s with heap := h' }) e c dd (by decide) ⟨.ref (kvs[i]).2.1, H, I1, hkey, ⟨rfl, kvs[i], List.getElem?_eq_getElem hi, rfl⟩, st', fun b hb => (hf b hb).1⟩⟩
  done := fun X hP hw hK hc i pins s σ H E I hf st hg => by
    subst hP hw hK
    obtain ⟨f0, f1, f2, f3, f4, f5⟩ := hf it (List.mem_singleton.mpr rfl)
    obtain ⟨⟨hd, nf⟩, hi⟩ := hg
    obtain ⟨es', ep', hdt, hsz, ent⟩ := nf.raw X.w
    obtain ⟨rfl, rfl⟩ := dict_ep hod hdt
    exact next_key_end (I.ok.hd hc) st (I.hok d _ hd).1 hdt hsz hi fun h' eb => ⟨rfl, I.turned (t' := s.toks) (fun b ob hb z => eb b ob hb z) f0 f1 f3 f4 f5⟩
  self := fun A i s Q E st h => wpAny_pyIter_keyiter st h
end
def iKeysN (td : TE) : TI := fun σ H R => td σ H fun x H1 => ∃ d o kvs, x = .ref d ∧ H1 d = some (NkO d o) ∧ NkF d o kvs ∧ R (ItN d o kvs) H1
section
variable {X : Cx} {K : PySem.W.Frag} {L : Lk} {tg e : Expr} {td : TE} {wd : WE} {F H : Hp}
theorem pi_keysN (he : PE X e td) : PI X tg e (iKeysN td) := by
  refine ⟨fun pins s σ H R I h => ?_⟩
  refine thn (he.run pins s σ H _ I h) fun u s1 ⟨x, H1, I1, rx, d, o, kvs, ex, hd, nf, q⟩ => ?_
  subst ex
  obtain rfl : u = Value.ref d := rx
  obtain ⟨es, ep, hdt, hsz, ent⟩ := nf.raw X.w
  refine iter_keys nf.sys (I1.hok d _ hd).1 nf.ex hdt (pi_one (tk := s1.toks) I1 _ (turn_keysN _ hdt) ⟨_, Heap.get?_push_size _ rfl, rfl, ?_⟩ q)
  rw [hsz] <;> rfl
theorem walkD_n {d : Addr} {o : Obj} {kvs : List (NestedKey × Addr × V)} (h : F d = some (NkO d o)) (f : NkF d o kvs) (k : ∀ p ∈ kvs, NkV K F p.1 (.ref p.2.1)) : WalkD K F (ItN d o kvs) (kvs.map fun p => nkD p.1) noG where
  goes := fun i F' S' H' hi e x _ => ⟨⟨x.fr _ _ (e _ _ h), f⟩, by rw [List.length_map] at hi; exact hi⟩
  stops := fun F' S' H' e x _ => ⟨⟨x.fr _ _ (e _ _ h), f⟩, by rw [List.length_map]; exact Nat.le_refl _⟩
  yields := fun i F' S' H' v H2 hi e x _ ⟨eH, p, hp, ev⟩ => by
    subst eH ev
    exact ⟨nkD p.1, F', by rw [List.getElem?_map, hp]; rfl, ExF.refl F', x, rep_nk _ _ (NkV.mono e _ _ (k p (List.mem_of_getElem? hp)))⟩
/-- over the keys of a dict that changes no more -/
def wiKeysN (wd : WE) : WI := fun ρ S Q => wd ρ S fun x ρ1 S1 => ∃ ks ds, x = .dicT ks ds ∧ Q (ks.map nkD) noG ρ1 S1
theorem ri_keysN (h : RE K L td wd) : RI K L (iKeysN td) (wiKeysN wd) := by
  intro F ρ S σ H Q R m q k
  refine h F ρ S σ H _ _ m q fun x H1 dx ρ1 S1 F1 e1 m1 r1 ⟨ks, ds, ex, q1⟩ => ?_
  subst ex
  cases r1 with
  | @dicT _ _ a od kvs h1 h2 h3 h4 h5 =>
    subst h3
    rw [List.map_map] at q1
    exact ⟨a, od, kvs, rfl, m1.fs.fr _ _ h1, h2, k _ H1 _ _ ρ1 S1 F1 e1 m1 (walkD_n h1 h2 h4) q1⟩
theorem di_keysN (h : DE X L e td wd) : DI X L tg e (iKeysN td) (wiKeysN wd) := ⟨pi_keysN h.pe, ri_keysN h.re⟩
/-! ### sorted(d), list(d) -/
/-- the keys of a dict, collected -/
theorem col_keysN {pins : List (Addr × Obj)} {σ : L2.St} {s : Shared} {A : Around} {E : Value → Shared → Prop} {d : Addr} {o : Obj} {kvs : List (NestedKey × Addr × V)} (I : Inv X pins σ H s) (hh : A.handled = none) (hd : H d = some (NkO d o)) (nf : NkF d o kvs) :
    wpAny (model X.prog X.w) A (collect (.ref d)) (fun ys s1 => ys = kvs.map (fun p => .ref p.2.1) ∧ ∃ h1 tk, s1 = { s with heap := h1, toks := tk } ∧ ∀ b o, s.heap.get? b = some o → h1.get? b = some o) E s := by
  obtain ⟨es, ep, hdt, hsz, ent⟩ := nf.raw X.w
  have raw : s.heap.DictRaw d es ep := ⟨o, (I.hok d _ hd).1, nf.ex, hdt⟩
  refine PySem.W.kdu_collect (PySem.KdlSrc.rawDict nf.sys) hh raw (by rw [hsz]; exact nf.sz) fun h' tk acc k' it => ⟨?_, h', tk, rfl, k'⟩
  apply List.ext_getElem?
  intro i
  rw [Array.getElem?_toList, List.getElem?_map]
  by_cases hi : i < kvs.length
  · obtain ⟨en, hen, hk⟩ := ent i kvs[i] (List.getElem?_eq_getElem hi)
    have hi2 : i < acc.size := by rw [it.1, hsz]; exact hi
    obtain ⟨hz, e⟩ := it.2 i acc[i] (Array.getElem?_eq_getElem hi2)
    rw [Array.getElem?_eq_getElem hi2, e, List.getElem?_eq_getElem hi]
    rw [Array.getElem?_eq_getElem hz] at hen
    cases hen
    exact congrArg some hk
  · rw [List.getElem?_eq_none (by omega), Array.getElem?_eq_none (by rw [it.1, hsz]; omega)]
    rfl
def rSortedN (K : PySem.W.Frag) : List V → Hp → VK → Prop := fun xs H Q => ∃ (a : Addr) (o : Obj) (kvs : List (NestedKey × Addr × V)), xs = [.ref a] ∧ H a = some (NkO a o) ∧ NkF a o kvs ∧ DpAll K H (kvs.map fun p => .ref p.2.1) (kvs.map fun p => toPy (nkD p.1)) ∧
  PySem.W.AllAlike (kvs.map fun p => toPy (nkD p.1)) ∧ PySem.W.Sortable (kvs.map fun p => toPy (nkD p.1)) ∧ (∀ p ∈ kvs, (toPy (nkD p.1)).depth ≤ 60) ∧
  ∀ p, H p = none → Q (.ref p) (upd H p (.lst (((kvs.map fun p => (nkD p.1, V.ref p.2.1)).mergeSort fun b c => leD b.1 c.1).map (·.2))))
theorem vals_refsN : ∀ (kvs : List (NestedKey × Addr × V)), Vals (kvs.map fun p => V.ref p.2.1) (kvs.map fun p => Value.ref p.2.1)
  | [] => .nil
  | p :: kvs => .cons rfl (vals_refsN kvs)
theorem cr_sortedN (K : PySem.W.Frag) (hu : X.A.units + 64 < cLine) (hc : X.calm = true) (hK : X.K = K := by rfl) : CallR X (.builtin "sorted") (rSortedN K) := by
  subst hK
  intro pins s σ H xs us Q I r h
  obtain ⟨a, o, kvs, rfl, hd, nf, hdp, hal, hso, hdep, q⟩ := h
  rw [Vals.ref1 r]
  have e1 : (kvs.map fun p => (nkD p.1, V.ref p.2.1)).map (fun b : D × V => b.2) = kvs.map fun p => V.ref p.2.1 := by rw [List.map_map]; rfl
  have e2 : (kvs.map fun p => (nkD p.1, V.ref p.2.1)).map (fun b : D × V => toPy b.1) = kvs.map fun p => toPy (nkD p.1) := by rw [List.map_map]; rfl
  refine sorted_data (bs := kvs.map fun p => (nkD p.1, V.ref p.2.1)) hu I (col_keysN I (I.ok.hd hc) hd nf) (by rw [e1]; exact vals_refsN kvs) (by rw [List.length_map]; exact nf.sz) (by rw [e1, e2]; exact hdp) (by rw [e2]; exact hal) (by rw [e2]; exact hso) (fun b hb => ?_) q
  obtain ⟨p, hp, rfl⟩ := List.mem_map.mp hb
  exact hdep p hp
def cSortedN (m : Bool) : D → MS → KV2 → Prop := fun x S Q => ∃ ks ds, x = .dicT ks ds ∧ okSort (ks.map nkD) ∧ (∀ k ∈ ks, okL 60 (nkD k) = true) ∧ newL m (sortD (ks.map nkD)) S Q
theorem rep_okN {k : NestedKey} {b : Addr} (x : FS K F S H) (ok : okL 60 (nkD k) = true) (h : NkV K F k (.ref b)) : Dp K H (.ref b) (toPy (nkD k)) := by
  unfold okL at ok
  rw [Bool.and_eq_true] at ok
  exact dp_of x _ _ (rep_nk k _ h) ok.1
theorem dps_okN (x : FS K F S H) : ∀ {kvs : List (NestedKey × Addr × V)}, (∀ p ∈ kvs, okL 60 (nkD p.1) = true ∧ NkV K F p.1 (.ref p.2.1)) → DpAll K H (kvs.map fun p => .ref p.2.1) (kvs.map fun p => toPy (nkD p.1))
  | [], _ => .nil
  | p :: kvs, h => .cons (rep_okN x (h p List.mem_cons_self).1 (h p List.mem_cons_self).2) (dps_okN x fun q hq => h q (List.mem_cons_of_mem _ hq))
theorem roc_sortedN (m : Bool) : ROc K (rSortedN K) (w1 (cSortedN m)) := roc1 fun F S H x v Q R fs rx ⟨ks, ds, hx, ⟨ho1, ho2⟩, ho3, q⟩ k => by
  subst hx
  obtain ⟨a, od, kvs, rfl, h1, h2, h3, h4, h5⟩ := rx
  subst h3
  have em : (kvs.map (·.1)).map nkD = kvs.map fun p => nkD p.1 := by rw [List.map_map]; rfl
  have em2 : ((kvs.map (·.1)).map nkD).map toPy = kvs.map fun p => toPy (nkD p.1) := by rw [List.map_map, List.map_map]; rfl
  rw [em2] at ho1 ho2
  have ok : ∀ p ∈ kvs, okL 60 (nkD p.1) = true := fun p hp => ho3 p.1 (List.mem_map.mpr ⟨p, hp, rfl⟩)
  refine ⟨a, od, kvs, rfl, h1, h2, dps_okN fs fun p hp => ⟨ok p hp, h4 p hp⟩, ho1, ho2, fun p hp => ?_, fun p hp => ?_⟩
  · have := ok p hp
    unfold okL at this
    rw [Bool.and_eq_true] at this
    exact of_decide_eq_true this.2
  · have e3 : sortD ((kvs.map (·.1)).map nkD) = (((kvs.map fun p => (nkD p.1, V.ref p.2.1)).mergeSort fun b c => leD b.1 c.1).map (·.1)) := by
      rw [em, show (kvs.map fun p => nkD p.1) = (kvs.map fun p => (nkD p.1, V.ref p.2.1)).map (·.1) by rw [List.map_map]; rfl]
      exact (List.map_mergeSort (f := fun b : D × V => b.1) (r := fun b c => leD b.1 c.1) (s := leD) fun a _ b _ => rfl).symm
    rw [e3] at q
    refine newL_ok k fs ?_ q hp
    have all : ∀ p ∈ ((kvs.map fun p => (nkD p.1, V.ref p.2.1)).mergeSort fun b c => leD b.1 c.1), Rep K F p.1 p.2 := fun p hp => by
      have hp := (List.mergeSort_perm _ _).mem_iff.mp hp
      obtain ⟨q, hq, rfl⟩ := List.mem_map.mp hp
      exact rep_nk _ _ (h4 q hq)
    exact reps_of_all all
/-- list(d) -/
def rListN (K : PySem.W.Frag) : List V → Hp → VK → Prop := fun xs H Q => ∃ (a : Addr) (o : Obj) (kvs : List (NestedKey × Addr × V)), xs = [.ref a] ∧ H a = some (NkO a o) ∧ NkF a o kvs ∧ ∀ p, H p = none → Q (.ref p) (upd H p (.lst (kvs.map fun p => .ref p.2.1)))
theorem cr_listN (K : PySem.W.Frag) (hc : X.calm = true) : CallR X (.type "list") (rListN K) := by
  intro pins s σ H xs us Q I r h
  obtain ⟨a, o, kvs, rfl, hd, nf, q⟩ := h
  rw [Vals.ref1 r]
  obtain ⟨es, ep, hdt, hsz, ent⟩ := nf.raw X.w
  have raw : s.heap.DictRaw a es ep := ⟨o, (I.hok a _ hd).1, nf.ex, hdt⟩
  refine PySem.W.kdl_call (PySem.KdlSrc.rawDict nf.sys) (I.ok.hd hc) raw (by rw [hsz]; exact nf.sz) fun h' tk acc c' k' ho it => ?_
  have er : acc.toList = kvs.map fun p => Value.ref p.2.1 := by
    apply List.ext_getElem?
    intro i
    rw [Array.getElem?_toList, List.getElem?_map]
    by_cases hi : i < kvs.length
    · obtain ⟨en, hen, hk⟩ := ent i kvs[i] (List.getElem?_eq_getElem hi)
      have hi2 : i < acc.size := by rw [it.1, hsz]; exact hi
      obtain ⟨hz, e⟩ := it.2 i acc[i] (Array.getElem?_eq_getElem hi2)
      rw [Array.getElem?_eq_getElem hi2, e, List.getElem?_eq_getElem hi]
      rw [Array.getElem?_eq_getElem hz] at hen
      cases hen
      exact congrArg some hk
    · rw [List.getElem?_eq_none (by omega), Array.getElem?_eq_none (by rw [it.1, hsz]; omega)]
      rfl
  refine ⟨.ref s.heap.objs.size, _, I.laid (t' := tk) (o := .lst (kvs.map fun p => .ref p.2.1)) k' (Nat.le_refl _) ⟨by rw [List.length_map]; exact nf.sz, _, c', vals_refsN kvs, ?_⟩, rfl, q _ (I.hok.fresh (Nat.le_refl _))⟩
  rw [ho, ← er]
def cListN (m : Bool) : D → MS → KV2 → Prop := fun x S Q => ∃ ks ds, x = .dicT ks ds ∧ newL m (ks.map nkD) S Q
theorem reps_nkL : ∀ {kvs : List (NestedKey × Addr × V)}, (∀ p ∈ kvs, NkV K F p.1 (.ref p.2.1)) → Reps K F ((kvs.map (·.1)).map nkD) (kvs.map fun p => .ref p.2.1)
  | [], _ => .nil
  | p :: kvs, h => .cons (rep_nk _ _ (h p List.mem_cons_self)) (reps_nkL fun q hq => h q (List.mem_cons_of_mem _ hq))
theorem roc_listN (m : Bool) : ROc K (rListN K) (w1 (cListN m)) := roc1 fun F S H x v Q R fs rx ⟨ks, ds, hx, q⟩ k => by
  subst hx
  obtain ⟨a, od, kvs, rfl, h1, h2, h3, h4, h5⟩ := rx
  subst h3
  exact ⟨a, od, kvs, rfl, h1, h2, fun p hp => newL_ok k fs (reps_nkL h4) q hp⟩
end
end DL
/-! DL25: data that is ordered; min, max, sum. -/
namespace DL
open PySem PySem.Spec PyProof.Rows L2
/-- what f makes of a thing is data, ordered by lt, at most n deep -/
structure EnO {α : Type} (f : α → D) (lt : α → α → Bool) (n : Nat) : Prop where
  al : ∀ a b, PySem.W.alike (toPy (f a)) (toPy (f b)) = true
  nn : ∀ a, toPy (f a) ≠ .none
  lt : ∀ a b, PySem.W.dataLt (toPy (f a)) (toPy (f b)) = lt a b
  eq : ∀ a b, eqD (f a) (f b) = true ↔ a = b
  ok : ∀ a, okL n (f a) = true
theorem EnO.int : EnO D.int (fun a b => decide (a < b)) 0 where
  al a b := by simp only [toPy, PySem.W.alike]
  nn a := fun e => by cases e
  lt a b := PySem.W.dataLt_int a b
  eq a b := by rw [eqD_int, decide_eq_true_eq]
  ok a := okL_int
theorem alikeAll_enc {α : Type} {f : α → D} {lt : α → α → Bool} {n : Nat} (o : EnO f lt n) : ∀ xs ys : List α, PySem.W.alikeAll (toPys (xs.map f)) (toPys (ys.map f)) = true
  | [], _ => by rw [List.map_nil, toPys, PySem.W.alikeAll]
  | _ :: _, [] => by rw [List.map_nil, List.map_cons, toPys, toPys, PySem.W.alikeAll]
  | x :: xs, y :: ys => by
    rw [List.map_cons, List.map_cons, toPys, toPys, PySem.W.alikeAll, o.al x y, alikeAll_enc o xs ys]
    rfl
/-- the first difference decides, else the shorter is the less -/
def ltL {α : Type} [DecidableEq α] (lt : α → α → Bool) : List α → List α → Bool
  | [], [] => false
  | [], _ :: _ => true
  | _ :: _, [] => false
  | x :: xs, y :: ys => if x = y then ltL lt xs ys else lt x y
theorem eqvAll_enc {α : Type} {f : α → D} {lt : α → α → Bool} {n : Nat} (o : EnO f lt n) : ∀ xs ys : List α, PyData.eqvAll (toPys (xs.map f)) (toPys (ys.map f)) = true ↔ xs = ys
  | [], [] => by simp [toPys, PyData.eqvAll]
  | [], _ :: _ => by simp [toPys, PyData.eqvAll]
  | _ :: _, [] => by simp [toPys, PyData.eqvAll]
  | x :: xs, y :: ys => by
    rw [List.map_cons, List.map_cons, toPys, toPys, PyData.eqvAll, Bool.and_eq_true, eqvAll_enc o xs ys, show PyData.eqv (toPy (f x)) (toPy (f y)) = eqD (f x) (f y) from rfl, o.eq, List.cons.injEq]
theorem lexAll_enc {α : Type} [DecidableEq α] {f : α → D} {lt : α → α → Bool} {n : Nat} (o : EnO f lt n) : ∀ xs ys : List α, PyProof.Rows.lexLt itemOrd (PySem.W.keyToksAll (toPys (xs.map f))) (PySem.W.keyToksAll (toPys (ys.map f))) = ltL lt xs ys
  | [], [] => lex_irrefl _
  | [], y :: ys => by
    rw [List.map_nil, List.map_cons, toPys, toPys, PySem.W.toks_all_cons]
    simp only [PySem.W.keyToksAll]
    rw [lex_diff (O := itemOrd) (by simp)]
    rfl
  | x :: xs, [] => by
    rw [List.map_nil, List.map_cons, toPys, toPys, PySem.W.toks_all_cons]
    simp only [PySem.W.keyToksAll]
    rw [lex_diff (O := itemOrd) (by simp)]
    rfl
  | x :: xs, y :: ys => by
    rw [List.map_cons, List.map_cons, toPys, toPys, ltL]
    by_cases h : x = y
    · rw [if_pos h, PySem.W.dataLt_all_yes (o.al x y) ((o.eq x y).mpr h), lexAll_enc o xs ys]
    · have : PyData.eqv (toPy (f x)) (toPy (f y)) = false := Bool.eq_false_iff.mpr fun e => h ((o.eq x y).mp e)
      rw [if_neg h, PySem.W.dataLt_all_no (o.al x y) this]
      exact o.lt x y
/-- tuples of them -/
theorem EnO.tup {α : Type} [DecidableEq α] {f : α → D} {lt : α → α → Bool} {n : Nat} (o : EnO f lt n) : EnO (fun xs : List α => .tup (xs.map f)) (ltL lt) (n + 1) where
  al xs ys := by
    show PySem.W.alike (.tuple _) (.tuple _) = true
    simp only [PySem.W.alike]
    exact alikeAll_enc o xs ys
  nn a := fun e => by cases e
  lt xs ys := (PySem.W.dataLt_tuple _ _).trans (lexAll_enc o xs ys)
  eq xs ys := by
    show PyData.eqv (.tuple _) (.tuple _) = true ↔ _
    simp only [PyData.eqv]
    exact eqvAll_enc o xs ys
  ok xs := okL_tup fun d hd => by
    obtain ⟨a, _, rfl⟩ := List.mem_map.mp hd
    exact o.ok a
/-- pairs of two kinds -/
theorem EnO.pair {α β : Type} [DecidableEq α] {f : α → D} {g : β → D} {lt : α → α → Bool} {lu : β → β → Bool} {n m : Nat} (o : EnO f lt n) (u : EnO g lu m) (hl : ∀ b, lu b b = false) :
    EnO (fun p : α × β => .tup [f p.1, g p.2]) (fun p q => if p.1 = q.1 then lu p.2 q.2 else lt p.1 q.1) (max n m + 1) where
  al p q := by
    show PySem.W.alike (.tuple [_, _]) (.tuple [_, _]) = true
    simp only [PySem.W.alike, PySem.W.alikeAll, o.al, u.al, Bool.and_self]
  nn a := fun e => by cases e
  lt p q := by
    refine (PySem.W.dataLt_tuple _ _).trans ?_
    show PyProof.Rows.lexLt itemOrd (PySem.W.keyToksAll [toPy (f p.1), toPy (g p.2)]) (PySem.W.keyToksAll [toPy (f q.1), toPy (g q.2)]) = _
    by_cases h : p.1 = q.1
    · rw [if_pos h, PySem.W.dataLt_all_yes (o.al p.1 q.1) ((o.eq _ _).mpr h)]
      by_cases h2 : eqD (g p.2) (g q.2) = true
      · rw [PySem.W.dataLt_all_yes (u.al p.2 q.2) h2, lex_irrefl, (u.eq _ _).mp h2]
        exact (hl _).symm
      · rw [PySem.W.dataLt_all_no (u.al p.2 q.2) (Bool.eq_false_iff.mpr h2)]
        exact u.lt p.2 q.2
    · rw [if_neg h, PySem.W.dataLt_all_no (o.al p.1 q.1) (Bool.eq_false_iff.mpr fun e => h ((o.eq _ _).mp e))]
      exact o.lt p.1 q.1
  eq p q := by
    show PyData.eqv (.tuple [_, _]) (.tuple [_, _]) = true ↔ _
    simp only [PyData.eqv, PyData.eqvAll, Bool.and_true, Bool.and_eq_true]
    rw [show (PyData.eqv (toPy (f p.1)) (toPy (f q.1)) = true) = (eqD (f p.1) (f q.1) = true) from rfl, show (PyData.eqv (toPy (g p.2)) (toPy (g q.2)) = true) = (eqD (g p.2) (g q.2) = true) from rfl, o.eq, u.eq]
    exact (Prod.ext_iff).symm
  ok p := okL_tup fun d hd => by
    simp only [List.mem_cons, List.not_mem_nil, or_false] at hd
    rcases hd with rfl | rfl
    · exact okL_mono (o.ok _) (Nat.le_max_left n m)
    · exact okL_mono (u.ok _) (Nat.le_max_right n m)
theorem ltL_int : ∀ xs ys : List Int, ltL (fun a b => decide (a < b)) xs ys = decide (xs < ys)
  | [], [] => by simp [ltL]
  | [], y :: ys => by simp [ltL]
  | x :: xs, [] => by simp [ltL]
  | x :: xs, y :: ys => by
    unfold ltL
    rw [ltL_int xs ys]
    by_cases h : x = y
    · subst h
      rw [if_pos rfl, decide_eq_decide, List.cons_lt_cons_iff]
      exact ⟨fun z => .inr ⟨rfl, z⟩, fun z => z.elim (fun w => absurd w (Int.lt_irrefl _)) (·.2)⟩
    · rw [if_neg h, decide_eq_decide, List.cons_lt_cons_iff]
      exact ⟨fun z => .inl z, fun z => z.elim id fun w => absurd w.1 h⟩
/-- rows of numbers -/
theorem EnO.row : EnO tupI (fun a b => decide (a < b)) 1 := by
  have h := EnO.int.tup
  rw [show ltL (fun a b : Int => decide (a < b)) = fun a b => decide (a < b) from funext fun a => funext fun b => ltL_int a b] at h
  exact h
section
variable {α : Type} {f : α → D} {lt : α → α → Bool} {n : Nat}
theorem leD_enc (o : EnO f lt n) (a b : α) : leD (f a) (f b) = !lt b a := by
  unfold leD
  rw [PySem.W.dataLe_eq]
  show (!PySem.W.dataLt (toPy (f b)) (toPy (f a))) = _
  rw [o.lt]
theorem sortD_enc (o : EnO f lt n) (xs : List α) : sortD (xs.map f) = (xs.mergeSort fun a b => !lt b a).map f :=
  (List.map_mergeSort (f := f) (r := fun a b => !lt b a) (s := leD) fun a _ b _ => (leD_enc o a b).symm).symm
theorem eqD_enc [DecidableEq α] (o : EnO f lt n) (a b : α) : eqD (f a) (f b) = decide (a = b) := by
  by_cases h : a = b
  · rw [decide_eq_true h, (o.eq a b).mpr h]
  · rw [decide_eq_false h]
    exact Bool.eq_false_iff.mpr fun e => h ((o.eq a b).mp e)
theorem inD_enc [DecidableEq α] (o : EnO f lt n) (a : α) (xs : List α) : inD (f a) (xs.map f) = decide (a ∈ xs) := by
  unfold inD
  rw [List.any_map, Bool.eq_iff_iff, List.any_eq_true, decide_eq_true_eq]
  constructor
  · rintro ⟨x, hx, e⟩
    rw [← (o.eq x a).mp e]
    exact hx
  · exact fun h => ⟨a, h, (o.eq a a).mpr rfl⟩
theorem okL_encs (o : EnO f lt n) (xs : List α) : okL (n + 1) (.lst (xs.map f)) = true := okL_lst fun d hd => by
  obtain ⟨a, _, rfl⟩ := List.mem_map.mp hd
  exact o.ok a
theorem okD_enc (o : EnO f lt n) (h : n ≤ 64) (a : α) : okD (f a) = true := okL_mono (o.ok a) h
theorem okD_encs (o : EnO f lt n) (h : n ≤ 63) (xs : List α) : okD (.lst (xs.map f)) = true := okL_mono (okL_encs o xs) (by omega)
theorem okD_encT (o : EnO f lt n) (h : n ≤ 63) (xs : List α) : okD (.tup (xs.map f)) = true := okL_mono (okL_tup (n := n) fun d hd => by
  obtain ⟨a, _, rfl⟩ := List.mem_map.mp hd
  exact o.ok a) (by omega)
theorem eqvs_encs [DecidableEq α] (o : EnO f lt n) (xs ys : List α) : PyData.eqvAll (toPys (xs.map f)) (toPys (ys.map f)) = decide (xs = ys) := by
  rw [Bool.eq_iff_iff, decide_eq_true_eq]
  exact eqvAll_enc o xs ys
theorem eqD_encs [DecidableEq α] (o : EnO f lt n) (xs ys : List α) : eqD (.lst (xs.map f)) (.lst (ys.map f)) = decide (xs = ys) := by
  show PyData.eqv (.list _) (.list _) = _
  simp only [PyData.eqv]
  exact eqvs_encs o xs ys
theorem eqD_encT [DecidableEq α] (o : EnO f lt n) (xs ys : List α) : eqD (.tup (xs.map f)) (.tup (ys.map f)) = decide (xs = ys) := by
  show PyData.eqv (.tuple _) (.tuple _) = _
  simp only [PyData.eqv]
  exact eqvs_encs o xs ys
/-- what may be sorted: tuples that are not empty, or no tuples -/
theorem okSort_enc (o : EnO f lt n) {xs : List α} (h : (∀ x ∈ xs, ∃ y r, f x = .tup (y :: r)) ∨ ∀ x ∈ xs, ∀ ds, toPy (f x) ≠ .tuple ds) : okSort (xs.map f) := by
  constructor
  · intro d hd d' hd'
    obtain ⟨y, hy, rfl⟩ := List.mem_map.mp hd
    obtain ⟨z, hz, rfl⟩ := List.mem_map.mp hd'
    obtain ⟨a, _, rfl⟩ := List.mem_map.mp hy
    obtain ⟨b, _, rfl⟩ := List.mem_map.mp hz
    exact o.al a b
  · rcases h with h | h
    · refine .inl fun d hd => ?_
      obtain ⟨y, hy, rfl⟩ := List.mem_map.mp hd
      obtain ⟨a, ha, rfl⟩ := List.mem_map.mp hy
      obtain ⟨z, r, e⟩ := h a ha
      exact ⟨toPy z, toPys r, by rw [e]; rfl⟩
    · refine .inr fun d hd => ?_
      obtain ⟨y, hy, rfl⟩ := List.mem_map.mp hd
      obtain ⟨a, ha, rfl⟩ := List.mem_map.mp hy
      exact ⟨o.nn a, h a ha⟩
end
/-! ### min, max of data, sum of numbers -/
def dMin (x : D) (xs : List D) : D := xs.foldl (fun a y => if PySem.W.dataLt (toPy y) (toPy a) = true then y else a) x
def dMax (x : D) (xs : List D) : D := xs.foldl (fun a y => if PySem.W.dataLt (toPy a) (toPy y) = true then y else a) x
theorem toPy_dMin (x : D) : ∀ xs : List D, toPy (dMin x xs) = PySem.W.minD (toPy x) (xs.map toPy) := fun xs => by
  unfold dMin PySem.W.minD
  induction xs generalizing x with
  | nil => rfl
  | cons y ys ih =>
    rw [List.map_cons, List.foldl_cons, List.foldl_cons, ih]
    cases PySem.W.dataLt (toPy y) (toPy x) <;> rfl
theorem toPy_dMax (x : D) : ∀ xs : List D, toPy (dMax x xs) = PySem.W.maxD (toPy x) (xs.map toPy) := fun xs => by
  unfold dMax PySem.W.maxD
  induction xs generalizing x with
  | nil => rfl
  | cons y ys ih =>
    rw [List.map_cons, List.foldl_cons, List.foldl_cons, ih]
    cases PySem.W.dataLt (toPy x) (toPy y) <;> rfl
/-- the first of the least -/
def minBy {α : Type} (lt : α → α → Bool) (x : α) (xs : List α) : α := xs.foldl (fun a y => if lt y a = true then y else a) x
def maxBy {α : Type} (lt : α → α → Bool) (x : α) (xs : List α) : α := xs.foldl (fun a y => if lt a y = true then y else a) x
theorem dMin_enc {α : Type} {f : α → D} {lt : α → α → Bool} {n : Nat} (o : EnO f lt n) (x : α) (xs : List α) : dMin (f x) (xs.map f) = f (minBy lt x xs) := by
  unfold dMin minBy
  induction xs generalizing x with
  | nil => rfl
  | cons y ys ih =>
    rw [List.map_cons, List.foldl_cons, List.foldl_cons, ← ih, o.lt]
    cases lt y x <;> rfl
theorem dMax_enc {α : Type} {f : α → D} {lt : α → α → Bool} {n : Nat} (o : EnO f lt n) (x : α) (xs : List α) : dMax (f x) (xs.map f) = f (maxBy lt x xs) := by
  unfold dMax maxBy
  induction xs generalizing x with
  | nil => rfl
  | cons y ys ih =>
    rw [List.map_cons, List.foldl_cons, List.foldl_cons, ← ih, o.lt]
    cases lt x y <;> rfl
section
variable {X : Cx} {K : PySem.W.Frag}
def rMinD (K : PySem.W.Frag) (g : PyData → List PyData → PyData) : List V → Hp → VK → Prop := fun vs H Q => ∃ (a : Addr) (xs : List V) (x : PyData) (ds : List PyData), vs = [.ref a] ∧ (SqL K H a xs ∨ SqT K H a xs) ∧ DpAll K H xs (x :: ds) ∧ PySem.W.AlikeAll (x :: ds) ∧ PyData.depthAll (x :: ds) ≤ 60 ∧
  PyData.canLayAll0 (x :: ds) = true ∧ ∀ (i : Nat) (v : V) (d : PyData), xs[i]? = some v → (x :: ds)[i]? = some d → d = g x ds → Q v H
theorem reads_ix {h : Heap} : ∀ {us : List Value} {ds : List PyData} {as : List Addr}, ReadsAll h us ds as → ∀ (i : Nat) (u : Value), us[i]? = some u → ∃ d bs, ds[i]? = some d ∧ Reads h u d bs
  | _, _, _, .nil, _, _, hv => by simp at hv
  | _, _, _, .cons (d := d) r rs, 0, u, hv => by
    obtain rfl : _ = u := by simpa using hv
    exact ⟨d, _, rfl, r⟩
  | _, _, _, .cons r rs, i + 1, u, hv => by
    obtain ⟨d, bs, e, r'⟩ := reads_ix rs i u (by simpa using hv)
    exact ⟨d, bs, by simpa using e, r'⟩
theorem lay_ix : ∀ {ds : List PyData} {i : Nat} {d : PyData}, PyData.canLayAll0 ds = true → ds[i]? = some d → d.canLay0 = true
  | [], _, _, _, h => by simp at h
  | e :: ds, 0, d, hl, h => by
    obtain rfl : e = d := by simpa using h
    rw [PyData.canLayAll0, Bool.and_eq_true] at hl
    exact hl.1
  | e :: ds, i + 1, d, hl, h => by
    rw [PyData.canLayAll0, Bool.and_eq_true] at hl
    exact lay_ix hl.2 (by simpa using h)
theorem vals_ix : ∀ {xs : List V} {us : List Value} {i : Nat} {u : Value}, Vals xs us → us[i]? = some u → ∃ v, xs[i]? = some v ∧ RelV v u
  | _, _, _, _, .nil, h => by simp at h
  | _, _, 0, u, @Paired.cons _ _ _ x _ _ _ r _, h => by
    obtain rfl : _ = u := by simpa using h
    exact ⟨x, rfl, r⟩
  | _, _, i + 1, u, .cons _ rs, h => by
    obtain ⟨v, e, r⟩ := vals_ix (i := i) rs (by simpa using h)
    exact ⟨v, by simpa using e, r⟩
theorem mm_fin {pins : List (Addr × Obj)} {σ : L2.St} {H : Hp} {s : Shared} {xs : List V} {its : List Value} {ds : List PyData} {as : List Addr} {m : PyData} {Q : VK} (I : Inv X pins σ H s) (rv : Vals xs its) (ra : ReadsAll s.heap its ds as) (hl : PyData.canLayAll0 ds = true)
    (q : ∀ (i : Nat) (v : V) (d : PyData), xs[i]? = some v → ds[i]? = some d → d = m → Q v H) {i : Nat} {u : Value} {h' : Heap} {tk : Nat} {bs : List Addr} (hi : its.toArray[i]? = some u) (hr : Reads h' u m bs) (hk : ∀ b o, s.heap.get? b = some o → h'.get? b = some o) : EP X pins σ Q u { s with heap := h', toks := tk } := by
  have hi : its[i]? = some u := by simpa using hi
  obtain ⟨v, hv, r⟩ := vals_ix rv hi
  obtain ⟨d, cs, hd, rd⟩ := reads_ix ra i u hi
  exact ⟨v, H, I.kept hk, r, q i v d hv hd ((PyProof.Rows.Reads.keeps hk rd).unique m bs hr).1⟩
theorem cr_minD (K : PySem.W.Frag) (hu : X.A.units + 64 < cLine) (hc : X.calm = true) (hK : X.K = K := by rfl) : CallR X (.builtin "min") (rMinD K PySem.W.minD) := by
  subst hK
  intro pins s σ H vs us Q I r h
  obtain ⟨a, xs, x, ds, rfl, hs, hd, hal, hdp, hlay, q⟩ := h
  rw [Vals.ref1 r]
  rcases hs with hs | hs
  · obtain ⟨its, rv, hl, hz⟩ := I.list hs
    obtain ⟨as, ra⟩ := Dp.readsAll I _ _ its hd rv
    exact PySem.W.min_list_data (I.ok.hd hc) hl.isList (by simpa using ra) hal (by omega) fun i v h' tk bs hv hr hk => mm_fin I rv ra hlay q hv hr hk
  · obtain ⟨its, rv, ⟨o, ho, hc2, n, hdt⟩, hz⟩ := I.tuple hs
    obtain ⟨as, ra⟩ := Dp.readsAll I _ _ its hd rv
    exact PySem.W.min_tuple_data (I.ok.hd hc) ⟨o, ho, hc2, n, hdt⟩ (by simpa using ra) hal (by omega) fun i v h' tk bs hv hr hk => mm_fin I rv ra hlay q hv hr hk
theorem cr_maxD (K : PySem.W.Frag) (hu : X.A.units + 64 < cLine) (hc : X.calm = true) (hK : X.K = K := by rfl) : CallR X (.builtin "max") (rMinD K PySem.W.maxD) := by
  subst hK
  intro pins s σ H vs us Q I r h
  obtain ⟨a, xs, x, ds, rfl, hs, hd, hal, hdp, hlay, q⟩ := h
  rw [Vals.ref1 r]
  rcases hs with hs | hs
  · obtain ⟨its, rv, hl, hz⟩ := I.list hs
    obtain ⟨as, ra⟩ := Dp.readsAll I _ _ its hd rv
    exact PySem.W.max_list_data (I.ok.hd hc) hl.isList (by simpa using ra) hal (by omega) fun i v h' tk bs hv hr hk => mm_fin I rv ra hlay q hv hr hk
  · obtain ⟨its, rv, ⟨o, ho, hc2, n, hdt⟩, hz⟩ := I.tuple hs
    obtain ⟨as, ra⟩ := Dp.readsAll I _ _ its hd rv
    exact PySem.W.max_tuple_data (I.ok.hd hc) ⟨o, ho, hc2, n, hdt⟩ (by simpa using ra) hal (by omega) fun i v h' tk bs hv hr hk => mm_fin I rv ra hlay q hv hr hk
/-- min(xs): xs data that is alike -/
def cMinD (g : D → List D → D) : D → MS → KV2 → Prop := fun x S Q => ∃ d ds, (x = .lst (d :: ds) ∨ x = .tup (d :: ds)) ∧ (∀ y ∈ d :: ds, ∀ z ∈ d :: ds, PySem.W.alike (toPy y) (toPy z) = true) ∧ (∀ y ∈ d :: ds, toPy y ≠ .none) ∧ (∀ y ∈ d :: ds, okL 60 y = true) ∧
  ∀ y ∈ d :: ds, toPy y = toPy (g d ds) → Q y S
theorem roc_mm {g : PyData → List PyData → PyData} {G : D → List D → D} (hg : ∀ d ds, toPy (G d ds) = g (toPy d) (ds.map toPy)) : ROc K (rMinD K g) (w1 (cMinD G)) := roc1 fun F S H x v Q R fs rx ⟨d, ds, hx, hal, hnn, hok, q⟩ k => by
  have hlay := okL_all hok
  have fin : ∀ {a : Addr} {vs : List V}, (SqL K H a vs ∨ SqT K H a vs) → Reps K F (d :: ds) vs → rMinD K g [.ref a] H R := fun {a vs} hs rs => by
    have e : toPys (d :: ds) = toPy d :: ds.map toPy := by rw [toPys, toPys_map]
    have hdp := dps_of fs _ _ rs hlay.1
    rw [e] at hdp hlay
    refine ⟨a, vs, toPy d, ds.map toPy, rfl, hs, hdp, ⟨fun y hy z hz => ?_, fun y hy => ?_⟩, hlay.2, hlay.1, fun i u p hu hp ep => ?_⟩
    · rw [← List.map_cons] at hy hz
      obtain ⟨y', hy', rfl⟩ := List.mem_map.mp hy
      obtain ⟨z', hz', rfl⟩ := List.mem_map.mp hz
      exact hal y' hy' z' hz'
    · rw [← List.map_cons] at hy
      obtain ⟨y', hy', rfl⟩ := List.mem_map.mp hy
      exact hnn y' hy'
    · rw [← List.map_cons, List.getElem?_map] at hp
      cases ed : (d :: ds)[i]? with
      | none => rw [ed] at hp; cases hp
      | some y =>
        rw [ed] at hp
        cases hp
        obtain ⟨u', h1, h2⟩ := rs.get ed
        rw [h1] at hu
        cases hu
        exact k _ H _ S F (ExF.refl F) fs h2 (q y (List.mem_of_getElem? ed) (ep.trans (hg d ds).symm))
  rcases hx with rfl | rfl
  · obtain ⟨a, vs, rfl, h1, h2⟩ := rx
    exact fin (.inl (.inl h1)) h2
  · obtain ⟨a, vs, rfl, h1, h2, _⟩ := rx
    exact fin (.inr h1) h2
theorem roc_minD : ROc K (rMinD K PySem.W.minD) (w1 (cMinD dMin)) := roc_mm toPy_dMin
theorem roc_maxD : ROc K (rMinD K PySem.W.maxD) (w1 (cMinD dMax)) := roc_mm toPy_dMax
/-- sum(xs) of numbers -/
def cSum : D → MS → KV2 → Prop := fun x S Q => ∃ ns : List Int, x = .lst (ns.map D.int) ∧ Q (.int ns.sum) S
theorem cr_sumK (K : PySem.W.Frag) (hc : X.calm = true) (hK : X.K = K := by rfl) : CallR X (.builtin "sum") (rSum K) := by subst hK; exact cr_sum hc
theorem roc_sum : ROc K (rSum K) (w1 cSum) := roc1 fun F S H x v Q R fs rx ⟨ns, hx, q⟩ k => by
  subst hx
  obtain ⟨a, vs, rfl, h1, h2⟩ := rx
  have e := h2.ints
  subst e
  exact ⟨a, ns, rfl, .inl h1, k _ H _ S F (ExF.refl F) fs (.int _) q⟩
end
section
variable {α : Type} {f : α → D} {lt : α → α → Bool} {n : Nat} {S : MS} {Q : KV2}
theorem minD_enc (o : EnO f lt n) (hn : n ≤ 60) (g : (α → α → Bool) → α → List α → α) {G : D → List D → D} (hG : ∀ (x : α) (xs : List α), G (f x) (xs.map f) = f (g lt x xs)) {x : α} {xs : List α} {y : D} (hy : y = .lst ((x :: xs).map f) ∨ y = .tup ((x :: xs).map f)) (q : Q (f (g lt x xs)) S) : cMinD G y S Q := by
  refine ⟨f x, xs.map f, hy, fun a ha b hb => ?_, fun a ha => ?_, fun a ha => ?_, fun a ha e => ?_⟩
  · rw [← List.map_cons] at ha hb
    obtain ⟨a, _, rfl⟩ := List.mem_map.mp ha
    obtain ⟨b, _, rfl⟩ := List.mem_map.mp hb
    exact o.al a b
  · rw [← List.map_cons] at ha
    obtain ⟨a, _, rfl⟩ := List.mem_map.mp ha
    exact o.nn a
  · rw [← List.map_cons] at ha
    obtain ⟨a, _, rfl⟩ := List.mem_map.mp ha
    exact okL_mono (o.ok a) hn
  · rw [← List.map_cons] at ha
    obtain ⟨a, _, rfl⟩ := List.mem_map.mp ha
    rw [hG] at e
    have : eqD (f a) (f (g lt x xs)) = true := by
      have h2 := eqD_refl (okL_mono (o.ok (g lt x xs)) (show n ≤ 64 by omega))
      unfold eqD at h2 ⊢
      rw [e]
      exact h2
    rw [(o.eq _ _).mp this]
    exact q
theorem cMin_enc (o : EnO f lt n) (hn : n ≤ 60) {x : α} {xs : List α} {y : D} (hy : y = .lst ((x :: xs).map f) ∨ y = .tup ((x :: xs).map f)) (q : Q (f (minBy lt x xs)) S) : cMinD dMin y S Q := minD_enc o hn minBy (dMin_enc o) hy q
theorem cMax_enc (o : EnO f lt n) (hn : n ≤ 60) {x : α} {xs : List α} {y : D} (hy : y = .lst ((x :: xs).map f) ∨ y = .tup ((x :: xs).map f)) (q : Q (f (maxBy lt x xs)) S) : cMinD dMax y S Q := minD_enc o hn maxBy (dMax_enc o) hy q
end
end DL
/-! DL26: dict comprehensions with numbers as keys; dict(list of pairs). -/
namespace DL
open PySem PySem.Spec PyProof.Rows L2
/-! ### {k: v for ..}, k numbers or texts -/
section
variable {J : It} {n : Nat} {G : Hp → Prop} {Y : Nat → Hp → V → Hp → Prop}
theorem dc_it (w : Walk J n G Y) {g : TG} {tt : TT} {tk tv : TE} {vs : List Nat} {σ : L2.St} {H1 : Hp} {D : Addr} {Qd : Hp → Prop} (Pv : Nat → Hp → Prop) (h0 : Pv 0 (upd H1 D (.dK []))) (hG : ∀ i H, i ≤ n → Pv i H → G H)
    (hs : ∀ i x H H', i < n → Pv i H → Y i H x H' → g x (wipe σ vs) H' fun σ2 H2 => wipe σ2 vs = wipe σ vs ∧ tt σ2 H2 fun b H3 =>
      if b = true then tk σ2 H3 fun y H4 => tv σ2 H4 fun z H5 => ∃ kvs k, y = kV k ∧ H5 D = some (.dK kvs) ∧ kvs.length < sizeLine ∧ Pv (i + 1) (upd H5 D (.dK (putK kvs k z))) else Pv (i + 1) H3) (hd : ∀ H, Pv n H → Qd H) :
    ∃ W : Nat → Nat → Hp → Prop, (∃ m, W 0 m (upd H1 D (.dK []))) ∧ ∀ i m H, W i m H →
      (J.stop i H ∧ Qd H) ∨ (J.go i H ∧ ∃ Nx : Hp → Prop, (∀ H', Nx H' → ∃ m', m' < m ∧ W (i + 1) m' H') ∧ ∀ x H', J.yld i H x H' → g x (wipe σ vs) H' fun σ2 H2 => wipe σ2 vs = wipe σ vs ∧ tt σ2 H2 fun b H3 =>
        if b = true then tk σ2 H3 fun y H4 => tv σ2 H4 fun z H5 => ∃ kvs k, y = kV k ∧ H5 D = some (.dK kvs) ∧ kvs.length < sizeLine ∧ Nx (upd H5 D (.dK (putK kvs k z))) else Nx H3) := by
  refine ⟨fun i m H => m + i = n ∧ Pv i H, ⟨n, rfl, h0⟩, fun i m H ⟨e, p⟩ => ?_⟩
  cases m with
  | zero =>
    have e : i = n := by omega
    subst e
    exact .inl ⟨w.stops H (hG i H (Nat.le_refl i) p), hd H p⟩
  | succ m =>
    have hi : i < n := by omega
    have q := hG i H (Nat.le_of_lt hi) p
    exact .inr ⟨w.goes i H hi q, Pv (i + 1), fun H' p' => ⟨m, Nat.lt_succ_self m, by omega, p'⟩, fun x H' y => hs i x H H' hi p (w.yields i H x H' hi q y)⟩
end
/-- the dict that is made stands at a -/
def dcW (a : Addr) (g : MS → Prop) (wg : WG) (wt : WT) (wk wv : WE) (Q : MS → Prop) (ρ0 : Rho) : List D → MS → Prop
  | [] => fun S => g S ∧ Q S
  | d :: r => fun S => g S ∧ wg d ρ0 S fun ρ1 S1 => wt ρ1 S1 fun b ρ2 S2 => if b = true then wk ρ2 S2 fun y ρ3 S3 => wv ρ3 S3 fun z _ S4 => ∃ ks ds k, y = keyD k ∧ S4 a = some (.dic ks ds) ∧ ks.length < sizeLine ∧ dcW a g wg wt wk wv Q ρ0 r (S4.set a (putDic k z ks ds)) else dcW a g wg wt wk wv Q ρ0 r S2
theorem dcW_g {a : Addr} {g : MS → Prop} {wg : WG} {wt : WT} {wk wv : WE} {Q : MS → Prop} {ρ0 : Rho} : ∀ {ds : List D} {S : MS}, dcW a g wg wt wk wv Q ρ0 ds S → g S
  | [], _, h => h.1
  | _ :: _, _, h => h.1
def wDc (vs : List Nat) (wi : WI) (wg : WG) (wt : WT) (wk wv : WE) : WE := fun ρ S Q => wi ρ S fun ds g ρ1 S1 => ∀ a, S1 a = none → dcW a g wg wt wk wv (fun S2 => Q (.ref a) ρ1 S2) (wipeR ρ1 vs) ds (S1.set a (.dic [] []))
section
variable {X : Cx} {L : Lk} {pos : Pos} {K : PySem.W.Frag}
theorem re_dc {vs : List Nat} {ti : TI} {wi : WI} {g : TG} {wg : WG} {tt : TT} {wt : WT} {tk tv : TE} {wk wv : WE} (hi : RI K L ti wi) (hg : RG K L vs g wg) (ht : RT K L tt wt) (hk : RE K L tk wk) (hv : RE K L tv wv) : RE K L (tDc ti g tt tk tv vs) (wDc vs wi wg wt wk wv) := by
  intro F ρ S σ H Q R m q k
  refine hi F ρ S σ H _ _ m q fun J H1 ds gd ρ1 S1 F1 e1 m1 wa q1 => ?_
  intro p hp
  obtain ⟨sp, fp⟩ := m1.fs.notS hp
  have x0 : FS K F1 (S1.set p (.dic [] [])) (upd H1 p (.dK [])) := m1.fs.alloc (m := .dic [] []) hp rfl ⟨[], upd_same, rfl, .nil⟩
  refine dc_it (walk_of_d wa) (fun i H => ∃ F' S', ExF F1 F' ∧ FS K F' S' H ∧ dcW p gd wg wt wk wv (fun S2 => Q (.ref p) ρ1 S2) (wipeR ρ1 vs) (ds.drop i) S') ⟨F1, _, ExF.refl F1, x0, q1 p sp⟩ (fun i H _ ⟨F', S', e, x', q'⟩ => ⟨F', S', e, x', dcW_g q'⟩) ?_ ?_
  · rintro i x H2 H3 hlt ⟨F', S', e, x', q'⟩ y
    obtain ⟨d, F3, hd, e3, x3, r3⟩ := y F' S' e x' (dcW_g q')
    have hdrop : ds.drop i = d :: ds.drop (i + 1) := by
      obtain ⟨h1, h2⟩ := List.getElem?_eq_some_iff.mp hd
      rw [← h2]
      exact List.drop_eq_getElem_cons h1
    rw [hdrop] at q'
    have m3 : Mt K L F3 (wipeR ρ1 vs) S' (L2.wipe σ vs) H3 := (m1.wipe vs).step (e.trans e3) x3
    have fin : ∀ {F5 : Hp} {S5 : MS} {H5 : Hp}, ExF F3 F5 → FS K F5 S5 H5 → dcW p gd wg wt wk wv (fun S2 => Q (.ref p) ρ1 S2) (wipeR ρ1 vs) (ds.drop (i + 1)) S5 →
        ∃ F' S', ExF F1 F' ∧ FS K F' S' H5 ∧ dcW p gd wg wt wk wv (fun S2 => Q (.ref p) ρ1 S2) (wipeR ρ1 vs) (ds.drop (i + 1)) S' := fun e5 x5 q5 => ⟨_, _, (e.trans e3).trans e5, x5, q5⟩
    refine hg F3 _ S' _ H3 d x _ _ m3 r3 q'.2 fun F4 ρ4 S4 σ4 H4 e4 m4 w4 q4 => ⟨by
      rw [w4]
      exact wipe_eq (wipe_length σ vs) fun j hj => by rw [wipe_get, if_neg (fun z => hj z.1)], ?_⟩
    refine ht F4 ρ4 S4 σ4 H4 _ _ m4 q4 fun b H5 ρ5 S5 F5 e5 m5 q5 => ?_
    cases b with
    | false =>
      rw [if_neg Bool.false_ne_true] at q5 ⊢
      exact fin (e4.trans e5) m5.fs q5
    | true =>
      rw [if_pos rfl] at q5 ⊢
      refine hk F5 ρ5 S5 σ4 H5 _ _ m5 q5 fun y H6 dy ρ6 S6 F6 e6 m6 r6 q6 => ?_
      refine hv F6 ρ6 S6 σ4 H6 _ _ m6 q6 fun z H7 dz ρ7 S7 F7 e7 m7 r7 ⟨ks, ds', kk, hy, ha, hz, q7⟩ => ?_
      subst hy
      obtain rfl := rep_key r6
      obtain ⟨_, kvs, h1, h2, h3⟩ := m7.fs.st p _ ha
      subst h2
      rw [List.length_map] at hz
      refine ⟨kvs, kk, rfl, h1, hz, fin (((e4.trans e5).trans e6).trans e7) ?_ q7⟩
      unfold putDic
      by_cases hh : hasK kk (kvs.map (·.1)) = true
      · rw [if_pos hh]
        have ep : putK kvs kk z = kvs.map fun kv => if kv.1 = kk then (kv.1, z) else kv := by
          unfold putK
          rw [valV_any, val_mem, if_pos hh]
        rw [ep]
        exact m7.fs.write ha rfl ⟨_, upd_same, keys_repl kvs, reps_putD r7 h3⟩
      · rw [if_neg hh]
        have ep : putK kvs kk z = kvs ++ [(kk, z)] := by
          unfold putK
          rw [valV_any, val_mem, if_neg hh]
        rw [ep]
        exact m7.fs.write ha rfl ⟨_, upd_same, by rw [List.map_append]; rfl, by rw [List.map_append]; exact h3.append (.cons r7 .nil)⟩
  · rintro H2 ⟨F', S', e, x', q'⟩
    rw [List.drop_length] at q'
    exact k _ H2 _ ρ1 S' F' (e1.trans e) (m1.step e x') (.ref p) q'.2
theorem de_dc {kx vx tg iter : Expr} {ifs : List Expr} {scope : Scope} {ti : TI} {wi : WI} {g : TG} {wg : WG} {tt : TT} {wt : WT} {tk tv : TE} {wk wv : WE} (own : List (Str × Nat)) (hc : X.calm = true) (hN : X.N.Nodup) (hi : DI X L tg iter ti wi) (ok : BlkOk X.N X.env.scope scope own)
    (hg : ∀ (s : Shared) (H : Hp) (C : Addr) (cl : List (Str × Addr)) (fp : List Addr), DG (X.blk s H scope (compEnvC scope cl C X.env) fp) L (own.map (·.2)) tg g wg) (ht : ∀ (s : Shared) (H : Hp) (C : Addr) (cl : List (Str × Addr)) (fp : List Addr), DTs (X.blk s H scope (compEnvC scope cl C X.env) fp) L ifs tt wt)
    (hk : ∀ (s : Shared) (H : Hp) (C : Addr) (cl : List (Str × Addr)) (fp : List Addr), DE (X.blk s H scope (compEnvC scope cl C X.env) fp) L kx tk wk) (hv : ∀ (s : Shared) (H : Hp) (C : Addr) (cl : List (Str × Addr)) (fp : List Addr), DE (X.blk s H scope (compEnvC scope cl C X.env) fp) L vx tv wv)
    (hs : ∀ x, foldedSetIterable iter X.env x = pure x := by intro _; rfl) : DE X L (.DictComp kx vx [⟨tg, iter, ifs, 0⟩] scope pos) (tDc ti g tt tk tv (own.map (·.2))) (wDc (own.map (·.2)) wi wg wt wk wv) :=
  ⟨pe_dc hc hN hi.pi ok (fun s H C cl fp => (hg s H C cl fp).pg) (fun s H C cl fp => (ht s H C cl fp).pts) (fun s H C cl fp => (hk s H C cl fp).pe) (fun s H C cl fp => (hv s H C cl fp).pe) hs,
    re_dc hi.ri (hg X.s_0 X.H_0 0 [] []).rg (ht X.s_0 X.H_0 0 [] []).rt (hk X.s_0 X.H_0 0 [] []).re (hv X.s_0 X.H_0 0 [] []).re⟩
end
/-- a comprehension whose keys are new each time -/
theorem dcW_new {α : Type} {l : List α} {f : α → D} (kf : α → Key) (vf : α → D) {g : MS → Prop} {wg : WG} {wt : WT} {wk wv : WE} {ρ0 : Rho} {S0 : MS} {Q : MS → Prop} {a : Addr} (hg : ∀ S, Sub S0 S → g S) (ha : S0 a = none) (hn : (l.map kf).Nodup) (hz : l.length ≤ sizeLine)
    (hs : ∀ x ∈ l, ∀ S2, Sub S0 S2 → ∀ (N : D → D → MS → Prop) (M : MS → Prop), N (keyD (kf x)) (vf x) S2 → wg (f x) ρ0 S2 fun ρ1 S1 => wt ρ1 S1 fun b ρ2 S2 => if b = true then wk ρ2 S2 fun y ρ3 S3 => wv ρ3 S3 fun z _ S4 => N y z S4 else M S2)
    (q : Q (S0.set a (.dic (l.map kf) (l.map vf)))) : dcW a g wg wt wk wv Q ρ0 (l.map f) (S0.set a (.dic [] [])) := by
  have key : ∀ (r dn : List α), dn ++ r = l → dcW a g wg wt wk wv Q ρ0 (r.map f) (S0.set a (.dic (dn.map kf) (dn.map vf))) := by
    intro r
    induction r with
    | nil =>
      intro dn e
      rw [List.append_nil] at e
      subst e
      exact ⟨hg _ (Sub.set ha), q⟩
    | cons x r ih =>
      intro dn e
      have hx : x ∈ l := by rw [← e]; simp
      refine ⟨hg _ (Sub.set ha), ?_⟩
      refine hs x hx (S0.set a (.dic (dn.map kf) (dn.map vf))) (Sub.set ha) (fun y z S4 => ∃ ks ds k, y = keyD k ∧ S4 a = some (.dic ks ds) ∧ ks.length < sizeLine ∧ dcW a g wg wt wk wv Q ρ0 (r.map f) (S4.set a (putDic k z ks ds))) _ ?_
      · refine ⟨_, _, kf x, rfl, MS.set_same, ?_, ?_⟩
        · rw [List.length_map]
          have : dn.length + (r.length + 1) = l.length := by rw [← e]; simp
          omega
        · have hk : hasK (kf x) (dn.map kf) = false := by
            rw [← e, List.map_append, List.nodup_append] at hn
            unfold hasK
            rw [← Bool.not_eq_true, List.any_eq_true]
            rintro ⟨y, hy, e2⟩
            exact hn.2.2 y hy (kf x) (by simp) (of_decide_eq_true e2)
          rw [MS.set_set, putDic, hk, if_neg Bool.false_ne_true]
          have := ih (dn ++ [x]) (by rw [List.append_assoc]; exact e)
          rw [List.map_append, List.map_append] at this
          exact this
  exact key l [] rfl
theorem lookD_map {α : Type} {kf : α → Key} {vf : α → D} : ∀ {l : List α}, (l.map kf).Nodup → ∀ x ∈ l, lookD (l.map kf) (l.map vf) (kf x) = some (vf x)
  | [], _, x, h => nomatch h
  | y :: l, hn, x, h => by
    rw [List.map_cons, List.nodup_cons] at hn
    show (if kf y = kf x then some (vf y) else lookD (l.map kf) (l.map vf) (kf x)) = _
    rcases List.mem_cons.mp h with rfl | h
    · rw [if_pos rfl]
    · rw [if_neg (fun e => hn.1 (by rw [e]; exact List.mem_map_of_mem h)), lookD_map hn.2 x h]
theorem lookN_map {α : Type} {kf : α → NestedKey} {vf : α → D} : ∀ {l : List α}, (l.map kf).Nodup → ∀ x ∈ l, lookN (l.map kf) (l.map vf) (kf x) = some (vf x)
  | [], _, x, h => nomatch h
  | y :: l, hn, x, h => by
    rw [List.map_cons, List.nodup_cons] at hn
    show (if kf y = kf x then some (vf y) else lookN (l.map kf) (l.map vf) (kf x)) = _
    rcases List.mem_cons.mp h with rfl | h
    · rw [if_pos rfl]
    · rw [if_neg (fun e => hn.1 (by rw [e]; exact List.mem_map_of_mem h)), lookN_map hn.2 x h]
/-- the dict of pairs, the later ones over the earlier ones -/
def dicOf (ps : List (NestedKey × D)) : List NestedKey × List D := ps.foldl (fun acc p => if hasN p.1 acc.1 = true then (acc.1, putNs p.1 p.2 acc.1 acc.2) else (acc.1 ++ [p.1], acc.2 ++ [p.2])) ([], [])
theorem dicOf_new : ∀ (ps : List (NestedKey × D)), (ps.map (·.1)).Nodup → dicOf ps = (ps.map (·.1), ps.map (·.2)) := by
  have key : ∀ (r dn : List (NestedKey × D)), ((dn ++ r).map (·.1)).Nodup → r.foldl (fun acc p => if hasN p.1 acc.1 = true then (acc.1, putNs p.1 p.2 acc.1 acc.2) else (acc.1 ++ [p.1], acc.2 ++ [p.2])) (dn.map (·.1), dn.map (·.2)) = ((dn ++ r).map (·.1), (dn ++ r).map (·.2)) := by
    intro r
    induction r with
    | nil => intro dn _; rw [List.append_nil]; rfl
    | cons x r ih =>
      intro dn hn
      have hk : hasN x.1 (dn.map (·.1)) = false := by
        rw [List.map_append, List.nodup_append] at hn
        unfold hasN
        rw [← Bool.not_eq_true, List.any_eq_true]
        rintro ⟨y, hy, e2⟩
        exact hn.2.2 y hy x.1 (by simp) (of_decide_eq_true e2)
      have := ih (dn ++ [x]) (by rw [List.append_assoc]; exact hn)
      rw [List.append_assoc, List.map_append, List.map_append] at this
      rw [List.foldl_cons, show hasN x.1 (dn.map (·.1), dn.map (·.2)).1 = false from hk, if_neg Bool.false_ne_true]
      exact this
  exact fun ps hn => key ps [] hn
/-- rows of numbers as keys -/
def nkI (r : List Int) : NestedKey := .tup (r.map .num)
theorem nkDs_ints : ∀ r : List Int, nkDs (r.map .num) = r.map D.int
  | [] => rfl
  | x :: r => by rw [List.map_cons, nkDs, nkDs_ints r]; rfl
theorem nkD_nkI (r : List Int) : nkD (nkI r) = tupI r := by unfold nkI; rw [nkD, nkDs_ints]
theorem noTxs_ints : ∀ r : List Int, noTxs (r.map .num) = true
  | [] => rfl
  | x :: r => by rw [List.map_cons, noTxs, noTxs_ints r]; rfl
theorem depth_ints0 : ∀ r : List Int, NestedKey.depthAll (r.map .num) = 0
  | [] => rfl
  | x :: r => by rw [List.map_cons, NestedKey.depthAll, depth_ints0 r]; rfl
theorem okN_nkI (r : List Int) : okN (nkI r) = true := okN_iff.mpr ⟨rfl, noTxs_ints r, by unfold nkI; rw [NestedKey.depth, depth_ints0]; decide⟩
theorem nkI_inj {r s : List Int} (h : nkI r = nkI s) : r = s := by
  have h2 : tupI r = tupI s := by rw [← nkD_nkI, ← nkD_nkI, h]
  injection h2 with h2
  exact List.map_inj_right (fun a b e => by injection e) |>.mp h2
/-! ### dict(list of pairs), the first ones tuples -/
def allN (ps : List (NestedKey × Addr × V)) : List (NestedKey × Addr × V) := ps.foldl (fun acc p => putN acc p.1 p.2.1 p.2.2) []
theorem KN.all {ps : List (NestedKey × Addr × V)} {qs : List (NestedKey × Addr × Value)} (r : KN ps qs) : ∀ {acc : List (NestedKey × Addr × V)} {bcc : List (NestedKey × Addr × Value)}, KN acc bcc → KN (ps.foldl (fun acc p => putN acc p.1 p.2.1 p.2.2) acc) (storedAllH bcc qs) := by
  induction r with
  | nil => exact fun h => h
  | @cons p q ps qs h t ih =>
    intro acc bcc k
    obtain ⟨e1, e2, rv⟩ := h
    have := ih (k.put (k := p.1) (b := p.2.1) rv)
    rw [e1, e2] at this
    show KN (ps.foldl _ (putN acc p.1 p.2.1 p.2.2)) (storedAllH (storedH bcc q.1 q.2.1 q.2.2) qs)
    rw [e1, e2]
    exact this
theorem all_mem : ∀ {ps acc : List (NestedKey × Addr × V)} {q : NestedKey × Addr × V}, q ∈ ps.foldl (fun acc p => putN acc p.1 p.2.1 p.2.2) acc → ∃ p ∈ acc ++ ps, p.1 = q.1 ∧ p.2.1 = q.2.1
  | [], acc, q, h => ⟨q, by simpa using h, rfl, rfl⟩
  | p :: ps, acc, q, h => by
    obtain ⟨p', hp', e1, e2⟩ := all_mem (ps := ps) h
    rcases List.mem_append.mp hp' with h1 | h1
    · rcases putN_mem h1 with ⟨p2, h2, e3, e4⟩ | ⟨e3, e4⟩
      · exact ⟨p2, List.mem_append_left _ h2, e3.trans e1, e4.trans e2⟩
      · exact ⟨p, List.mem_append_right _ List.mem_cons_self, e3.symm.trans e1, e4.symm.trans e2⟩
    · exact ⟨p', List.mem_append_right _ (List.mem_cons_of_mem _ h1), e1, e2⟩
theorem all_len : ∀ {ps acc : List (NestedKey × Addr × V)}, (ps.foldl (fun acc p => putN acc p.1 p.2.1 p.2.2) acc).length ≤ acc.length + ps.length
  | [], acc => by simp
  | p :: ps, acc => by
    have := all_len (ps := ps) (acc := putN acc p.1 p.2.1 p.2.2)
    have h2 := putN_len (kvs := acc) (k := p.1) (v := p.2.2) p.2.1
    rw [List.foldl_cons, List.length_cons]
    omega
section
variable {X : Cx} {K : PySem.W.Frag} {F H : Hp} {S : MS}
theorem reps_all : ∀ {ps : List (NestedKey × Addr × V)} {ds : List D} {acc : List (NestedKey × Addr × V)} {es : List D}, Reps K F ds (ps.map (·.2.2)) → Reps K F es (acc.map (·.2.2)) →
    let r := ((ps.map (·.1)).zip ds).foldl (fun acc p => if hasN p.1 acc.1 = true then (acc.1, putNs p.1 p.2 acc.1 acc.2) else (acc.1 ++ [p.1], acc.2 ++ [p.2])) (acc.map (·.1), es)
    let l := ps.foldl (fun acc p => putN acc p.1 p.2.1 p.2.2) acc
    l.map (·.1) = r.1 ∧ Reps K F r.2 (l.map (·.2.2))
  | [], _, acc, es, r, q => by
    cases r
    exact ⟨rfl, q⟩
  | p :: ps, _, acc, es, r, q => by
    cases r with
    | @cons d _ ds _ r1 r2 =>
      simp only [List.map_cons, List.zip_cons_cons, List.foldl_cons]
      by_cases hh : hasN p.1 (acc.map (·.1)) = true
      · have e : putN acc p.1 p.2.1 p.2.2 = acc.map fun x => if x.1 = p.1 then (x.1, x.2.1, p.2.2) else x := by
          unfold putN
          rw [valN_mem, if_pos hh]
        rw [if_pos hh, e]
        have := reps_all (acc := acc.map fun x => if x.1 = p.1 then (x.1, x.2.1, p.2.2) else x) r2 (reps_putNs (k := p.1) r1 q)
        rw [keysN_repl] at this
        exact this
      · have e : putN acc p.1 p.2.1 p.2.2 = acc ++ [(p.1, p.2.1, p.2.2)] := by
          unfold putN
          rw [valN_mem, if_neg hh]
        rw [if_neg hh, e]
        have h2 : Reps K F (es ++ [d]) ((acc ++ [(p.1, p.2.1, p.2.2)]).map (·.2.2)) := by rw [List.map_append]; exact q.append (.cons r1 .nil)
        have := reps_all (acc := acc ++ [(p.1, p.2.1, p.2.2)]) r2 h2
        rw [List.map_append] at this
        exact this
def rDictP (K : PySem.W.Frag) : List V → Hp → VK → Prop := fun xs H Q => ∃ (F : Hp) (a : Addr) (ts : List Addr) (ps : List (NestedKey × Addr × V)), xs = [.ref a] ∧ ExF F H ∧ SqL K H a (ts.map V.ref) ∧ Paired (fun t (p : NestedKey × Addr × V) => SqT K H t [.ref p.2.1, p.2.2]) ts ps ∧
  (∀ p ∈ ps, NkV K F p.1 (.ref p.2.1) ∧ okN p.1 = true) ∧ ∀ d od, H d = none → NkF d od (allN ps) → Q (.ref d) (upd H d (NkO d od))
theorem vals_refsA : ∀ {ts : List Addr} {us : List Value}, Vals (ts.map V.ref) us → us = ts.map Value.ref
  | [], _, r => by cases r; rfl
  | t :: ts, _, r => by
    cases r with
    | @cons _ u _ us r1 r2 =>
      obtain rfl : u = .ref t := r1
      rw [vals_refsA r2]
      rfl
theorem pairs_of (pins : List (Addr × Obj)) (σ : L2.St) (s : Shared) (I : Inv X pins σ H s) : ∀ {ts : List Addr} {ps : List (NestedKey × Addr × V)}, Paired (fun t (p : NestedKey × Addr × V) => SqT X.K H t [.ref p.2.1, p.2.2]) ts ps → ∃ qs : List (NestedKey × Addr × Value), KN ps qs ∧ Paired (fun t (q : NestedKey × Addr × Value) => s.heap.IsTuple t #[.ref q.2.1, q.2.2]) ts qs
  | _, _, .nil => ⟨[], .nil, .nil⟩
  | _, _, .cons (a := t) (b := p) h r => by
    obtain ⟨qs, k1, k2⟩ := pairs_of pins σ s I r
    obtain ⟨its, rv, ⟨o, ho, hc, n, hd⟩, _⟩ := I.tuple h
    cases rv with
    | cons r1 rv =>
      cases rv with
      | @cons _ u _ us r2 rv =>
        cases rv
        cases r1
        exact ⟨(p.1, p.2.1, u) :: qs, .cons ⟨rfl, rfl, r2⟩ k1, .cons ⟨o, ho, hc, n, hd⟩ k2⟩
theorem cr_dictP (K : PySem.W.Frag) (hu : X.A.units + 65 < cLine) (hc : X.calm = true) (hK : X.K = K := by rfl) : CallR X (.type "dict") (rDictP K) := by
  subst hK
  intro pins s σ H xs us Q I r h
  obtain ⟨F, a, ts, ps, rfl, ex, hl, pr, hk, q⟩ := h
  rw [Vals.ref1 r]
  obtain ⟨its, rv, ⟨o, n, ho, hcl, hdt, hd⟩, hz⟩ := I.list hl
  obtain rfl := vals_refsA rv
  obtain ⟨qs, kn, pt⟩ := pairs_of pins σ s I pr
  have hl1 : ts.length = qs.length := Paired.length pt
  have hl2 : ps.length = qs.length := Paired.length kn
  rw [List.length_map] at hz
  have items : PairItems s.heap (ts.map Value.ref).toArray (fun j => ts.getD j 0) (qs.map fun q => (Value.ref q.2.1, q.2.2)) := by
    refine ⟨by simp [hl1], fun j k v hj => ?_⟩
    rw [List.getElem?_map] at hj
    cases eq : qs[j]? with
    | none => rw [eq] at hj; cases hj
    | some x =>
      rw [eq] at hj
      cases hj
      have hjl : j < ts.length := by rw [hl1]; exact (List.getElem?_eq_some_iff.mp eq).1
      obtain ⟨y, hy, hp⟩ := paired_get pt (List.getElem?_eq_getElem hjl)
      rw [eq] at hy
      cases hy
      have e1 : ts.getD j 0 = ts[j] := by simp [List.getD_eq_getElem?_getD, hjl]
      exact ⟨by simp [hjl], .inl (by show s.heap.IsTuple (ts.getD j 0) _; rw [e1]; exact hp)⟩
  have P := PairArg.list (prog := X.prog) (w := X.w) a (ts.map Value.ref).toArray (fun j => ts.getD j 0) (qs.map fun q => (Value.ref q.2.1, q.2.2))
  have plain : PlainSeq "list" s.heap a (ts.map Value.ref).toArray := ⟨o, n, ho, hcl, hdt, hd⟩
  have keys : ∀ h' : Heap, (∀ b o, s.heap.get? b = some o → h'.get? b = some o) → ∀ x ∈ qs, (nestedKind X.prog X.w).is h' x.1 x.2.1 := fun h' k' x hx => by
    obtain ⟨p, hp, e1, e2⟩ := KN.mem kn x hx
    have I' : Inv X pins σ H { s with heap := h' } := I.kept (t' := s.toks) k'
    rw [← e1, ← e2]
    exact ⟨nk_is I' ex _ _ _ (hk p hp).1 rfl, (okN_iff.mp (hk p hp).2).2.2⟩
  refine call_dict_pairsH (knd := nestedKind X.prog X.w) (ps := qs) P (I.ok.hd hc) (by show X.A.in1.in1.units + 8 < cLine; simp only [Around.in1_units]; omega) ⟨plain, items⟩ ⟨by rw [List.length_map], fun i key v e => ?_⟩ (fun h' k' x hx => ?_) (by rw [List.length_map, ← hl1]; exact hz) fun h' tk hd' k' => ?_
  · have e : (qs.map fun q => (Value.ref q.2.1, q.2.2))[i]? = some (key, v) := e
    rw [List.getElem?_map] at e
    cases eq : qs[i]? with
    | none => rw [eq] at e; cases e
    | some x =>
      rw [eq] at e
      cases e
      exact ⟨x.1, x.2.1, rfl, rfl⟩
  · refine keys h' (fun b ob z => k' b ob (Nat.ne_of_lt (Heap.lt_size z)) (fun w => nomatch w) z) x hx
  · obtain ⟨od, es, ep, hod, hx, hdd, he, his, hn⟩ := hd'
    have old : ∀ b o, s.heap.get? b = some o → h'.get? b = some o := fun b ob z => k' b ob (fun w => nomatch w) z
    have kna : KN (allN ps) (storedAllH [] qs) := kn.all .nil
    have mem : ∀ p ∈ allN ps, NkV X.K F p.1 (.ref p.2.1) ∧ okN p.1 = true := fun p hp => by
      obtain ⟨p', hp', e1, e2⟩ := all_mem hp
      rw [List.nil_append] at hp'
      rw [← e1, ← e2]
      exact hk p' hp'
    have nf : NkF s.heap.objs.size od (allN ps) := ⟨hx, beq_eq_false_iff_ne.mpr (Ne.symm (Nat.ne_of_lt I.big)), ⟨es, ep, _, hdd, fun w => by
      rw [he]
      refine List.map_congr_left fun x hx => ?_
      obtain ⟨p, hp, e1, e2⟩ := KN.mem kna x hx
      have hv := (mem p hp).1
      rw [e1] at hv
      show DictEntry.mk _ _ _ = DictEntry.mk _ _ _
      rw [show (nestedKind X.prog X.w).hash x.1 = x.1.hash w from hash_w X.w w x.1 _ hv], kna, hn⟩, fun p hp => (okN_iff.mp (mem p hp).2).2.2, by
      have := all_len (ps := ps) (acc := [])
      simp only [List.length_nil] at this
      show (allN ps).length ≤ sizeLine
      unfold allN
      omega⟩
    exact ⟨.ref s.heap.objs.size, _, I.laid (t' := tk) (o := NkO s.heap.objs.size od) old (Nat.le_refl _) ⟨hod, ⟨od, hod⟩, fun h1 h2 z st => st _ z⟩, rfl, q _ od (I.hok.fresh (Nat.le_refl _)) nf⟩
def newDT (m : Bool) (ks : List NestedKey) (ds : List D) (S : MS) (Q : KV2) : Prop := if m = true then ∀ a, S a = none → Q (.ref a) (S.set a (.dicT ks ds)) else Q (.dicT ks ds) S
theorem newDT_f {ks : List NestedKey} {ds : List D} {S : MS} {Q : KV2} : newDT false ks ds S Q ↔ Q (.dicT ks ds) S := by simp [newDT]
theorem newDT_t {ks : List NestedKey} {ds : List D} {S : MS} {Q : KV2} : newDT true ks ds S Q ↔ ∀ a, S a = none → Q (.ref a) (S.set a (.dicT ks ds)) := by simp [newDT]
def cDictP (m : Bool) : D → MS → KV2 → Prop := fun x S Q => ∃ ps : List (NestedKey × D), x = .lst (ps.map fun p => .tup [nkD p.1, p.2]) ∧ (∀ p ∈ ps, okN p.1 = true) ∧ newDT m (dicOf ps).1 (dicOf ps).2 S Q
theorem reps_pairs (x : FS K F S H) : ∀ {ps : List (NestedKey × D)} {vs : List V}, (∀ p ∈ ps, okN p.1 = true) → Reps K F (ps.map fun p => .tup [nkD p.1, p.2]) vs → ∃ (ts : List Addr) (qs : List (NestedKey × Addr × V)), vs = ts.map V.ref ∧ Paired (fun t (q : NestedKey × Addr × V) => SqT K H t [.ref q.2.1, q.2.2]) ts qs ∧ qs.map (·.1) = ps.map (·.1) ∧ (∀ q ∈ qs, NkV K F q.1 (.ref q.2.1) ∧ okN q.1 = true) ∧ Reps K F (ps.map (·.2)) (qs.map (·.2.2))
  | [], _, _, r => by
    cases r
    exact ⟨[], [], rfl, .nil, rfl, fun _ h => (nomatch h), .nil⟩
  | p :: ps, _, ok, r => by
    cases r with
    | cons r1 r2 =>
      obtain ⟨ts, qs, e, h1, h2, h3, h4⟩ := reps_pairs x (fun q hq => ok q (List.mem_cons_of_mem _ hq)) r2
      have okp := ok p List.mem_cons_self
      obtain ⟨h5, h6, h7⟩ := okN_iff.mp okp
      cases r1 with
      | @tup _ t us k1 k2 =>
        cases k2 with
        | @cons _ y _ _ k2 k3 =>
          cases k3 with
          | @cons _ z _ _ k4 k5 =>
            cases k5
            have hk := nkv_of p.1 y h6 k2
            obtain ⟨kk, ek⟩ := nkD_tk h5
            have hk' := hk
            rw [ek] at hk'
            cases hk' with
            | @tup _ b _ _ _ =>
              refine ⟨t :: ts, (p.1, b, z) :: qs, by rw [e]; rfl, .cons (exf_t x.fr k1.sq) h1, by rw [List.map_cons, List.map_cons, h2], fun q hq => ?_, .cons k4 h4⟩
              rcases List.mem_cons.mp hq with rfl | hq
              · exact ⟨hk, okp⟩
              · exact h3 q hq
theorem zip_self {α β : Type} : ∀ ps : List (α × β), (ps.map (·.1)).zip (ps.map (·.2)) = ps
  | [] => rfl
  | p :: ps => by rw [List.map_cons, List.map_cons, List.zip_cons_cons, zip_self ps]
theorem roc_dictP (m : Bool) : ROc K (rDictP K) (w1 (cDictP m)) := roc1 fun F S H x v Q R fs rx ⟨ps, hx, ok, q⟩ k => by
  subst hx
  obtain ⟨a, vs, rfl, h1, h2⟩ := rx
  obtain ⟨ts, qs, e, k1, k2, k3, k4⟩ := reps_pairs fs ok h2
  subst e
  refine ⟨F, a, ts, qs, rfl, fs.fr, .inl h1, k1, k3, fun d od hd nf => ?_⟩
  obtain ⟨sd, fd⟩ := fs.notS hd
  have ra := reps_all (acc := []) k4 .nil
  rw [k2] at ra
  have ez : ((ps.map (·.1)).zip (ps.map (·.2))) = ps := by
    exact zip_self ps
  rw [ez] at ra
  have mem : ∀ p ∈ allN qs, NkV K F p.1 (.ref p.2.1) := fun p hp => by
    obtain ⟨p', hp', e1, e2⟩ := all_mem hp
    rw [List.nil_append] at hp'
    rw [← e1, ← e2]
    exact (k3 p' hp').1
  cases m with
  | true => exact k _ _ _ _ F (ExF.refl F) (fs.alloc (m := .dicT (dicOf ps).1 (dicOf ps).2) hd rfl ⟨od, allN qs, upd_same, nf, ra.1, mem, ra.2⟩) (.ref d) (newDT_t.mp q d sd)
  | false =>
    have ex : ExF F (upd F d (NkO d od)) := ExF.new fd
    exact k _ _ _ _ _ ex (fs.grow hd) (.dicT upd_same nf ra.1 (fun p hp => NkV.mono ex _ _ (mem p hp)) (ra.2.up ex)) (newDT_f.mp q)
end
end DL
/-! DL27: three names, three values. -/
namespace DL
open PySem PySem.Spec PyProof.Rows L2
section
variable {X : Cx} {L : Lk} {pos : Pos}
/-- x, y, z = a, b, c: no tuple is made -/
def wPar3 (i j l : Nat) (wa : WA) : WS := fun De ρ S => wa ρ S fun ds ρ1 S1 => ∃ x y z, ds = [x, y, z] ∧ De.nx (((ρ1.set i (some x)).set j (some y)).set l (some z)) S1
theorem ds_par3 (i j l : Nat) {x y z : Str} {a b c : Expr} {ta : TA} {wa : WA} {px py pz pt : Pos} {kt k2 : Nat} {pt2 : Pos} (hc : X.calm = true) (hN : X.N.Nodup) (hij : i ≠ j) (hil : i ≠ l) (hjl : j ≠ l) (ha : DA X L [a, b, c] ta wa) (hi : X.N[i]? = some x := by rfl) (hj : X.N[j]? = some y := by rfl) (hl : X.N[l]? = some z := by rfl)
    (hx : X.env.scope.names.lookup x = some .local := by rfl) (hy : X.env.scope.names.lookup y = some .local := by rfl) (hz : X.env.scope.names.lookup z = some .local := by rfl)
    (hw : swappedStores [.Tuple [.Name x px, .Name y py, .Name z pz] kt pt] (.Tuple [a, b, c] k2 pt2) X.env = pure (some [x, y, z]) := by rfl) (hs : swapsWithSole [.Tuple [.Name x px, .Name y py, .Name z pz] kt pt] (.Tuple [a, b, c] k2 pt2) pos.line X.env = pure false := by rfl) :
    DS X L (.Assign [.Tuple [.Name x px, .Name y py, .Name z pz] kt pt] (.Tuple [a, b, c] k2 pt2) pos) (tPar3 i j l ta) (wPar3 i j l wa) := by
  refine ⟨ps_par3 hc hN hi hj hl hij hil hjl hx hy hz ha.pa hw hs, fun F ρ S σ H De D m q k => ?_⟩
  refine ha.ra F ρ S σ H _ _ m q fun vs H1 ds ρ1 S1 F1 e1 m1 r1 ⟨u, v, w, e, q1⟩ => ?_
  subst e
  cases r1 with
  | cons r1 r2 =>
    cases r2 with
    | cons r2 r3 =>
      cases r3 with
      | cons r3 r4 =>
        cases r4
        exact ⟨_, _, _, rfl, k.nx F1 _ S1 _ H1 e1 (((m1.store r1).store r2).store r3) q1⟩
end
end DL
namespace DL
open PySem PySem.Spec PyProof.Rows L2
theorem cutD_mid {xs : List D} {lo hi : Int} (h0 : 0 ≤ lo) (h1 : lo ≤ hi) (h2 : hi ≤ xs.length) : cutD xs (some lo) (some hi) = (xs.drop lo.toNat).take (hi.toNat - lo.toNat) := by
  simp only [cutD, HT.sIx]
  rw [if_neg (by omega), if_neg (by omega), Nat.min_eq_left (by omega), Nat.min_eq_left (by omega)]
theorem ixN_nat {n : Nat} {i : Int} (h0 : 0 ≤ i) (h : i < n) : ixN n i = some i.toNat := by
  unfold ixN
  rw [if_pos h0]
  first | rfl | rw [if_pos (by omega)]
end DL
/-! DL28: how many different numbers a tuple holds. -/
namespace DL
open PySem PySem.Spec PyProof.Rows L2
section
variable {X : Cx} {K : PySem.W.Frag} {L : Lk}
/-- len(set(a)), a a tuple of numbers of which no two are the same -/
def tLenSetT (K : PySem.W.Frag) (ta : TE) : TE := fun σ H Q => ta σ H fun x H1 => ∃ (l : Addr) (ns : List Int), x = V.ref l ∧ SqT K H1 l (ns.map V.int) ∧ ns.Nodup ∧ ns.length < 60 ∧ Q (.int ns.length) H1
theorem pe_lenSetT {e : Expr} {te : TE} {p1 p2 p3 p4 : Pos} (hc : X.calm = true) (hl : Gl X "len") (ml : X.mg "len" = none) (hs : Gl X "set") (ms : X.mg "set" = none) (he : PE X e te)
    (st : starEach [e] X.env = (false, eval e X.env) :: starEach [] X.env := by rfl) : PE X (.Call (.Name "len" p1) [.Call (.Name "set" p2) [e] [] p3] [] p4) (tLenSetT X.K te) := by
  refine ⟨fun pins s σ H Q I h => ?_⟩
  refine Call_ (ld_blt I hl ml PySem.boot_len (PyProof.Rows.callWith_builtin1 (PyProof.Rows.args_cons (Call_ (ld_blt I hs ms PyProof.Rows.boot_set (PyProof.Rows.callWith_type1 (PyProof.Rows.args_cons (thn (he.run pins s σ H _ I h) ?_) st) st rfl))) rfl) rfl rfl))
  rintro v s1 ⟨x, H1, I1, rv, l, ns, hx, hq, hn, hz, q⟩
  subst hx
  cases rv
  refine PyProof.Rows.args_nil ?_
  obtain ⟨its, rr, tu, _⟩ := I1.tuple hq
  have hin : IntsAre its.toArray.toList ns := by simpa using rr.ints
  refine call_set_tupI ns (I1.ok.hd hc) tu hin (by unfold scanBound; omega) fun h' tk c hS hc2 hk => ?_
  have I2 : Inv X pins σ H1 { s1 with heap := h', toks := tk } := I1.kept fun b o e => hk b o e
  refine PyProof.Rows.args_nil ?_
  obtain ⟨o, es, ep, t, ho, hex, hd, hg, hnd, hm, hb, hf, hsz, _⟩ := hS
  have hlen : es.size = ns.length := by
    have hp : (es.toList.map keyOf).Perm ns := (List.perm_ext_iff_of_nodup hnd hn).mpr fun z => by rw [← hm z, decide_eq_true_eq]
    have := hp.length_eq
    rwa [List.length_map, Array.length_toList] at this
  refine call_len_set ho hex hd hf (by omega) ⟨.int ns.length, H1, I2.tok _, ⟨_, by rw [hlen]⟩, q⟩
/-- len(set(a)) over D -/
def wLenSetT (we : WE) : WE := fun ρ S Q => we ρ S fun x ρ1 S1 => ∃ ns : List Int, x = .tup (ns.map D.int) ∧ ns.Nodup ∧ ns.length < 60 ∧ Q (.int (ns.length : Nat)) ρ1 S1
theorem re_lenSetT {te : TE} {we : WE} (h : RE K L te we) : RE K L (tLenSetT K te) (wLenSetT we) := by
  intro F ρ S σ H Q R m q k
  refine h F ρ S σ H _ _ m q fun x H1 dx ρ1 S1 F1 e1 m1 r1 ⟨ns, ex, h1, h2, q1⟩ => ?_
  subst ex
  obtain ⟨a, vs, rfl, g1, g2, _⟩ : RepT K F1 H1 (.tup (ns.map D.int)) x := rd_ok m1.fs r1
  have e := g2.ints
  subst e
  exact ⟨a, ns, rfl, g1, h1, h2, k _ H1 _ ρ1 S1 F1 e1 m1 (.int _) q1⟩
theorem de_lenSetT (K : PySem.W.Frag) {e : Expr} {te : TE} {we : WE} {p1 p2 p3 p4 : Pos} (hc : X.calm = true) (hl : Gl X "len") (ml : X.mg "len" = none) (hs : Gl X "set") (ms : X.mg "set" = none) (he : DE X L e te we)
    (st : starEach [e] X.env = (false, eval e X.env) :: starEach [] X.env := by rfl) (hK : X.K = K := by rfl) : DE X L (.Call (.Name "len" p1) [.Call (.Name "set" p2) [e] [] p3] [] p4) (tLenSetT K te) (wLenSetT we) := by
  subst hK
  exact ⟨pe_lenSetT hc hl ml hs ms he.pe st, re_lenSetT he.re⟩
end
end DL
/-! DL29: a list extended by a tuple. -/
namespace DL
open PySem PySem.Spec PyProof.Rows L2
/-- a tuple of any kind behind a list -/
theorem meets_extT (p t : Addr) (xs ys : Array Value) (n m : Nat) (dd : Option Addr) (sl : Array (Option Value)) (hn : ¬(!xs.isEmpty && Builtin.List.listTooLong (xs.size + ys.size)) = true) (hx : xs.size ≤ sizeLine) (hy : (xs ++ ys).size ≤ sizeLine + 1) :
    Meets (Builtin.«list.extend» ⟨[.ref p, .ref t], []⟩) (fun _ R s => s.heap.get? p = some { cls := .type "list", data := .seq xs n } ∧ s.heap.get? t = some { cls := .type "tuple", dict := dd, data := .seq ys m, slots := sl } ∧
      R (.ok (.ret Value.none)) { s with heap := s.heap.update p (Obj.mapSeq fun x => x ++ ys) }) := .of_wp fun prog w A R s h => by
  cases s
  obtain ⟨h1, h2, h3⟩ := h
  have g1 := AutoSeq1.idx_int
  have g2 := AutoSeq1.sub_tuple_tuple
  have g3 := AutoSeq1.sub_list_list
  have g4 := AutoSeq1.sub_tuple_list
  have g5 := AutoSeq1.sub_list_tuple
  wp_walk using (wpAny_updateSeq h1 rfl (hz := hx) (_hz' := hy)), wpAny_loadPart' h1, wpAny_loadPart' h2
  exact ⟨_, rfl, h3⟩
section
variable {X : Cx} {K : PySem.W.Frag}
def rExtT (K : PySem.W.Frag) : V → List V → Hp → VK → Prop := fun x vs H Q => ∃ p t xs zs, x = .ref p ∧ vs = [.ref t] ∧ SqT K H t zs ∧ H p = some (.lst xs) ∧ xs.length + zs.length ≤ sizeLine ∧ Q .non (upd H p (.lst (xs ++ zs)))
theorem mt_extT : MtR X "list.extend" (rExtT X.K) := by
  rintro pins s σ H _ vs v us Q I rx rv ⟨p, t, xs, zs, rfl, rfl, ht, hp, hz, q⟩
  cases rx
  obtain ⟨u, rfl, ru⟩ := rv.one
  cases ru
  obtain ⟨_, its, n, r, hl, e⟩ := I.lstM hp
  obtain ⟨ims, r2, ⟨o, ho, hc, m, hd⟩, _⟩ := I.tuple ht
  have len2 : ims.length = zs.length := r2.length.symm
  have hs : its.toArray.size + ims.toArray.size ≤ sizeLine := by simp only [List.size_toArray]; omega
  have hn : ¬ (!its.toArray.isEmpty && Builtin.List.listTooLong (its.toArray.size + ims.toArray.size)) = true := fun z => by
    rw [notLongL hs, Bool.and_false] at z
    cases z
  obtain ⟨cl, dd, da, sl⟩ := o
  dsimp only at hc hd
  subst hc
  subst hd
  refine call_meets F.slot_list_extend ⟨_, e, rfl⟩ F.entry_list_extend (F.args_list_extend_2 _ _) (meets_extT p t its.toArray ims.toArray n m dd sl hn (by rw [List.size_toArray]; omega) (by rw [Array.size_append]; omega)) ⟨e, ho, ?_⟩
  refine ⟨.non, _, I.lset (its' := its ++ ims) hp e (by simp) (r.append r2) ?_, rfl, q⟩
  rw [List.length_append]
  omega
theorem mt_extTK (K : PySem.W.Frag) (hK : X.K = K := by rfl) : MtR X "list.extend" (rExtT K) := by
  subst hK
  exact mt_extT
def wExtendT : D → List D → MS → KV2 → Prop := fun x xs S Q => ∃ a ds y es, x = .ref a ∧ xs = [y] ∧ rd S y = .tup es ∧ S a = some (.lst ds) ∧ ds.length + es.length ≤ sizeLine ∧ Q .non (S.set a (.lst (ds ++ es)))
theorem rm_extT : RM K (rExtT K) wExtendT := by
  rintro F S H _ vx _ vs Q R fs rx rs ⟨p, ds, y, es, rfl, rfl, ey, hp, hz, q⟩ k
  cases rx
  cases rs with
  | cons h1 h2 =>
    cases h2
    have hy := rd_ok fs h1
    rw [ey] at hy
    obtain ⟨t, ws, rfl, ht, rw2, _⟩ := hy
    obtain ⟨_, us, hu, ru⟩ := fs.st p _ hp
    refine ⟨p, t, us, ws, rfl, rfl, ht, hu, ?_, k.put fs (m := .lst (ds ++ es)) hp rfl ⟨_, upd_same, ru.append rw2⟩ .non q⟩
    rw [← ru.length, ← rw2.length]
    exact hz
end
end DL
/-! DL30: `for a, b in d.items()` of dicts with tuple keys; a dict of the store, as an expression, that changes no more. -/
namespace DL
open PySem PySem.Spec PyProof.Rows L2
def ItNi (d : Addr) (o : Obj) (kvs : List (NestedKey × Addr × V)) : It :=
  ⟨fun i H => (H d = some (NkO d o) ∧ NkF d o kvs) ∧ i < kvs.length, fun i H x H' => ∃ T p, kvs[i]? = some p ∧ x = .ref T ∧ H T = none ∧ H' = upd H T (.tup [.ref p.2.1, p.2.2]), fun i H => (H d = some (NkO d o) ∧ NkF d o kvs) ∧ kvs.length ≤ i⟩
theorem NkF.raw2 {a : Addr} {od : Obj} {kvs : List (NestedKey × Addr × V)} (f : NkF a od kvs) (w : World) : ∃ (es : Array DictEntry) (ep : Nat), od.data = .dict es ep ∧ es.size = kvs.length ∧ ∀ (i : Nat) (p : NestedKey × Addr × V), kvs[i]? = some p → ∃ en : DictEntry, es[i]? = some en ∧ en.key = .ref p.2.1 ∧ RelV p.2.2 en.val := by
  obtain ⟨es, ep, xs, hd, he, hp, hn⟩ := f.dat
  have hl : es.size = xs.length := by rw [← Array.length_toList, he w, List.length_map]
  have hl2 : kvs.length = xs.length := Paired.length hp
  refine ⟨es, ep, hd, by omega, fun i p e => ?_⟩
  obtain ⟨b, hb, e1, e2, e3⟩ := paired_get hp e
  refine ⟨⟨b.1.hash w, .ref b.2.1, b.2.2⟩, ?_, by rw [e2], e3⟩
  rw [← Array.getElem?_toList, he w, List.getElem?_map, hb]
  rfl
section
variable {P : Program} {w : World} {K : PySem.W.Frag} {d : Addr} {o : Obj} {es : Array DictEntry} {ep : Nat} {elts : List Expr} {kk : Nat} {tpos : Pos}
theorem turn_itemsN {kvs : List (NestedKey × Addr × V)} (it : Addr) (hod : o.data = .dict es ep) : Turn P w K (.Tuple elts kk tpos) (ItNi d o kvs) [it] it (fun i h => ∃ ok ov, IsItemIter h it d i kvs.length ep ok ov) where
  mem := List.mem_singleton.mpr rfl
  obj := fun i h st b hb => by
    obtain rfl : b = it := List.mem_singleton.mp hb
    obtain ⟨ok, ov, e⟩ := st
    exact ⟨_, e, fun v z => nomatch z⟩
  keep := fun i h h' st k => let ⟨ok, ov, e⟩ := st; ⟨ok, ov, k it (List.mem_singleton.mpr rfl) _ e⟩
  item := fun X hP hw hK hc i pins s σ H E I hf st hg => by
    subst hP hw hK
    obtain ⟨⟨hd, nf⟩, hi⟩ := hg
    obtain ⟨es', ep', hdt, hsz, ent⟩ := nf.raw2 X.w
    obtain ⟨rfl, rfl⟩ := dict_ep hod hdt
    obtain ⟨en, hen, hkey, hval⟩ := ent i kvs[i] (List.getElem?_eq_getElem hi)
    obtain ⟨ok, ov, he⟩ := st
    rw [← hsz] at he
    have hlt : it < s.heap.objs.size := Heap.lt_size he
    have raw : s.heap.DictRaw d es' ep' := ⟨o, (I.hok d _ hd).1, nf.ex, hdt⟩
    have hi2 : i < es'.size := by omega
    have ee : es'[i] = en := by
      rw [Array.getElem?_eq_getElem hi2] at hen
      exact Option.some.inj hen
    refine wpAny_pyNext_items_item_raw he raw hi2 fun h' ho hT hz hk => ?_
    rw [ee] at ho hT
    refine ⟨_, rfl, wpAny_letOwnedTupleGo_items (s := { s with heap := h' }) ho fun h'' he' sb => ?_⟩
    have hT2 : h''.get? s.heap.objs.size = some { cls := .type "tuple", data := .seq #[en.key, en.val] } := (sb.2 _ (Nat.ne_of_gt hlt)).trans hT
    have new : ObjOk X.prog X.w (upd H s.heap.objs.size (.tup [.ref (kvs[i]).2.1, (kvs[i]).2.2])) h'' s.heap.objs.size (.tup [.ref (kvs[i]).2.1, (kvs[i]).2.2]) :=
      ⟨by show 2 ≤ sizeLine; decide, [en.key, en.val], .cons hkey (.cons hval .nil), ⟨_, hT2, rfl, _, rfl⟩⟩
    have I1 : Inv X pins σ (upd H s.heap.objs.size (.tup [.ref (kvs[i]).2.1, (kvs[i]).2.2])) { s with heap := h'' } :=
      I.turnedNew (t' := s.toks) (ch := [it]) (fun b ob hb e => (sb.2 b (by simpa using hb)).trans (hk b ob (by simpa using hb) e)) hf (Nat.le_refl _) new
    refine ⟨.ref s.heap.objs.size, _, I1, rfl, ⟨_, kvs[i], List.getElem?_eq_getElem hi, rfl, I.hok.fresh (Nat.le_refl _), rfl⟩, ⟨en.key, en.val, ?_⟩, fun b hb => ?_⟩
    · rw [← hsz]; exact he'
    · obtain rfl : b = it := List.mem_singleton.mp hb
      rw [upd_ne (Nat.ne_of_lt hlt)]
      exact (hf b (List.mem_singleton.mpr rfl)).1
  done := fun X hP hw hK hc i pins s σ H E I hf st hg => by
    subst hP hw hK
    obtain ⟨f0, f1, f2, f3, f4, f5⟩ := hf it (List.mem_singleton.mpr rfl)
    obtain ⟨⟨hd, nf⟩, hi⟩ := hg
    obtain ⟨es', ep', hdt, hsz, ent⟩ := nf.raw2 X.w
    obtain ⟨rfl, rfl⟩ := dict_ep hod hdt
    obtain ⟨ok, ov, he⟩ := st
    rw [← hsz] at he
    have raw : s.heap.DictRaw d es' ep' := ⟨o, (I.hok d _ hd).1, nf.ex, hdt⟩
    exact wpAny_pyNext_items_end_raw (I.ok.hd hc) he raw (by omega) fun h' eb => ⟨rfl, I.turned (t' := s.toks) (fun b ob hb e => eb b ob hb e) f0 f1 f3 f4 f5⟩
  self := fun A i s Q E st h => let ⟨_, _, e⟩ := st; PySem.W.kcp_self e h
end
def iItemsN (td : TE) : TI := fun σ H R => td σ H fun x H1 => ∃ d o kvs, x = .ref d ∧ H1 d = some (NkO d o) ∧ NkF d o kvs ∧ R (ItNi d o kvs) H1
def itemsD (ks : List NestedKey) (ds : List D) : List D := List.zipWith (fun k d => D.wtup [nkD k, d]) ks ds
def wiItemsN (wd : WE) : WI := fun ρ S Q => wd ρ S fun x ρ1 S1 => ∃ ks ds, x = .dicT ks ds ∧ Q (itemsD ks ds) noG ρ1 S1
/-- a dict of the store that from here on changes no more -/
def wFrzT (wd : WE) : WE := fun ρ S Q => wd ρ S fun x ρ1 S1 => ∃ a ks ds, x = .ref a ∧ S1 a = some (.dicT ks ds) ∧ Q (.dicT ks ds) ρ1 (S1.del a)
section
variable {X : Cx} {K : PySem.W.Frag} {L : Lk} {tg e : Expr} {td : TE} {wd : WE} {F H : Hp} {elts : List Expr} {kk : Nat} {tpos apos cpos : Pos}
theorem pi_itemsN (he : PE X e td) (hbase : attributeBase e "items" X.env (eval e X.env) = eval e X.env := by rfl) (hline : (apos.endLine == cpos.line) = true := by rfl) :
    PI X (.Tuple elts kk tpos) (.Call (.Attribute e "items" apos) [] [] cpos) (iItemsN td) := by
  refine ⟨fun pins s σ H R I h => ?_⟩
  refine wpAny_Call_method (T := "dict") (id := "dict.items") hbase rfl hline F.plainAttrs_dict F.slot_dict_items F.type_dict_items (thn (he.run pins s σ H _ I h) fun u s1 ⟨x, H1, I1, rx, d, o, kvs, ex, hd, nf, q⟩ => ?_)
  subst ex
  obtain rfl : u = Value.ref d := rx
  obtain ⟨es, ep, hdt, hsz, ent⟩ := nf.raw2 X.w
  have raw : s1.heap.DictRaw d es ep := ⟨o, (I1.hok d _ hd).1, nf.ex, hdt⟩
  refine ⟨raw.typeIs, ?_, ?_⟩
  · intro a' e'
    cases e'
    exact ⟨o, (I1.hok d _ hd).1, nf.ex.2.1⟩
  have I2 : Inv X pins σ H1 { s1 with heap := s1.heap.push { cls := .type "dict_items", data := .fields #[.ref d] } } := I1.kept (t' := s1.toks) fun b ob q => Heap.get?_push_of_some _ q
  have fin : wpAny (model X.prog X.w) X.A (pyIter (.ref s1.heap.objs.size)) (PIE X pins σ (.Tuple elts kk tpos) R) X.xe { s1 with heap := s1.heap.push { cls := .type "dict_items", data := .fields #[.ref d] } } := by
    refine wpAny_pyIter_items_raw (d := d) ⟨_, Heap.get?_push_size _ rfl, rfl, rfl⟩ ⟨o, Heap.get?_push_of_some _ (I1.hok d _ hd).1, nf.ex, hdt⟩ (pi_one (tk := s1.toks) I2 _ (turn_itemsN _ hdt) ⟨.none, .none, ?_⟩ q)
    rw [← hsz]
    exact Heap.get?_push_size _ rfl
  show wpAny _ _ (callWith cpos (.builtin "dict.items") [.ref d] [] []) _ X.xe s1
  exact method_meetsIn F.slot_dict_items F.entry_dict_items rfl (PySem.evalArgs_none ⟨rfl, raw.typeIs, F.args_dict_items_1 _, _, meets_dict_items_raw d nf.sys, ⟨_, _, raw⟩, fin⟩)
theorem itemsD_length {ks : List NestedKey} {ds : List D} : (itemsD ks ds).length = min ks.length ds.length := List.length_zipWith
theorem walkD_ni {d : Addr} {o : Obj} {kvs : List (NestedKey × Addr × V)} {ds : List D} (h : F d = some (NkO d o)) (f : NkF d o kvs) (k : ∀ p ∈ kvs, NkV K F p.1 (.ref p.2.1)) (r : Reps K F ds (kvs.map (·.2.2))) : WalkD K F (ItNi d o kvs) (itemsD (kvs.map (·.1)) ds) noG where
  goes := fun i F' S' H' hi e x _ => ⟨⟨x.fr _ _ (e _ _ h), f⟩, by rw [itemsD_length, List.length_map] at hi; omega⟩
  stops := fun F' S' H' e x _ => ⟨⟨x.fr _ _ (e _ _ h), f⟩, by have := r.length; rw [List.length_map] at this; rw [itemsD_length, List.length_map]; omega⟩
  yields := fun i F' S' H' v H2 hi e x _ ⟨T, p, hp, ev, hT, eH⟩ => by
    subst ev
    have hl := r.length
    have hi' : i < ds.length := by rw [itemsD_length] at hi; omega
    obtain ⟨u, hu, ru⟩ := r.get (List.getElem?_eq_getElem hi')
    rw [List.getElem?_map, hp] at hu
    obtain rfl : p.2.2 = u := Option.some.inj hu
    obtain ⟨F2, h1, h2, h3⟩ := pairF x hT eH (rep_nk _ _ (NkV.mono e _ _ (k p (List.mem_of_getElem? hp)))) (ru.up e)
    refine ⟨.wtup [nkD p.1, ds[i]], F2, ?_, h1, h2, h3⟩
    unfold itemsD
    rw [List.getElem?_zipWith, List.getElem?_map, hp, List.getElem?_eq_getElem hi']
    rfl
theorem ri_itemsN (h : RE K L td wd) : RI K L (iItemsN td) (wiItemsN wd) := by
  intro F ρ S σ H Q R m q k
  refine h F ρ S σ H _ _ m q fun x H1 dx ρ1 S1 F1 e1 m1 r1 ⟨ks, ds, ex, q1⟩ => ?_
  subst ex
  cases r1 with
  | @dicT _ _ a od kvs h1 h2 h3 h4 h5 =>
    subst h3
    exact ⟨a, od, kvs, rfl, m1.fs.fr _ _ h1, h2, k _ H1 _ _ ρ1 S1 F1 e1 m1 (walkD_ni h1 h2 h4 h5) q1⟩
theorem di_itemsN (h : DE X L e td wd) (hbase : attributeBase e "items" X.env (eval e X.env) = eval e X.env := by rfl) (hline : (apos.endLine == cpos.line) = true := by rfl) :
    DI X L (.Tuple elts kk tpos) (.Call (.Attribute e "items" apos) [] [] cpos) (iItemsN td) (wiItemsN wd) := ⟨pi_itemsN h.pe hbase hline, ri_itemsN h.re⟩
theorem re_frzT (h : RE K L td wd) : RE K L td (wFrzT wd) := by
  intro F ρ S σ H Q R m q k
  refine h F ρ S σ H _ _ m q fun x H1 dx ρ1 S1 F1 e1 m1 r1 ⟨a, ks, ds, ex, hs, q1⟩ => ?_
  subst ex
  cases r1
  obtain ⟨F', ex, rr, x⟩ := m1.fs.freezeT hs
  exact k _ H1 _ _ _ F' (e1.trans ex) (m1.step ex x) rr q1
theorem de_frzT (h : DE X L e td wd) : DE X L e td (wFrzT wd) := ⟨h.pe, re_frzT h.re⟩
end
end DL
/-! DL31: a dict display of one pair, {k: v}, k a tuple. -/
namespace DL
open PySem PySem.Spec PyProof.Rows L2
section
variable {X : Cx} {K : PySem.W.Frag} {L : Lk} {ke ve : Expr} {tk tv : TE} {wk wv : WE} {F H : Hp} {pos : Pos}
def tDOneN (K : PySem.W.Frag) (tk tv : TE) : TE := fun σ H Q => ∀ p od, H p = none → NkF p od [] → tk σ (upd H p (NkO p od)) fun y H1 => tv σ H1 fun v H2 => ∃ F k b od1, y = .ref b ∧ ExF F H2 ∧ NkV K F k (.ref b) ∧ okN k = true ∧ H2 p = some (NkO p od1) ∧ NkF p od1 [] ∧
  ∀ od', NkF p od' [(k, b, v)] → Q (.ref p) (upd H2 p (NkO p od'))
theorem pe_doneN (hu : X.A.units + 65 < cLine) (hk : PE X ke tk) (hv : PE X ve tv)
    (hshape : (evalEachOpt [some ke] X.env).zip ((evalEach [ve] X.env).map fun v => do let x ← v; standAt pos; pure x) = [(eval ke X.env, do let x ← eval ve X.env; standAt pos; pure x)].map fun p => (some p.1, p.2) := by rfl) :
    PE X (.Dict [some ke] [ve] pos) (tDOneN X.K tk tv) := by
  refine ⟨fun pins s σ H Q I h => ?_⟩
  rw [arm_eval_Dict, hshape, dictDisplay_pairs _ (List.cons_ne_nil _ _) (by show 1 < 17; decide)]
  refine wpAny_bind (wpAny_standAt (wpAny_bind ?_))
  have q0 := h s.heap.objs.size { cls := .type "dict", data := .dict #[] } (I.hok.fresh (Nat.le_refl _)) ⟨⟨rfl, rfl, rfl⟩, beq_eq_false_iff_ne.mpr (Ne.symm (Nat.ne_of_lt I.big)), ⟨#[], 0, [], rfl, fun _ => rfl, .nil, List.nodup_nil⟩, fun _ h => (nomatch h), Nat.zero_le _⟩
  have I0 := I.laid (a := s.heap.objs.size) (o := NkO s.heap.objs.size { cls := .type "dict", data := .dict #[] }) (t' := s.toks) (fun _ _ q => Heap.get?_push_of_some _ q) (Nat.le_refl _)
    ⟨Heap.get?_push_size _ rfl, ⟨_, Heap.get?_push_size _ rfl⟩, fun h1 h2 z st => st _ z⟩
  refine wpAny_subDictH (knd := nestedKind X.prog X.w) (by show X.A.units + 8 < cLine; omega) (by show 1 ≤ 15; decide) ?_
  refine evalPairs_cons (thn (hk.run pins _ σ _ _ I0 q0) fun kv s1 ⟨y, H1, I1, ry, q1⟩ => ?_)
  refine wpAny_bind (thn (hv.run pins s1 σ H1 _ I1 q1) fun vv s2 ⟨v, H2, I2, rv, F, k, b, od1, ey, e, hkv, ok, hd, hf, q2⟩ => ?_)
  subst ey
  obtain rfl : kv = Value.ref b := ry
  refine wpAny_bind (wpAny_standAt (wpAny_pure (evalPairs_nil ?_)))
  obtain ⟨_, _, hdp⟩ := okN_iff.mp ok
  have hkey : (nestedKind X.prog X.w).is s2.heap k b := ⟨nk_is I2 e _ _ _ hkv rfl, hdp⟩
  obtain ⟨xs, hm, kn, hsys, hz⟩ := NkAt.dict I2 ⟨H2, od1, fun _ _ h => h, hd, hf, fun _ h => (nomatch h)⟩
  cases kn
  refine ⟨[(k, b, vv)], ⟨rfl, rfl, hkey, trivial⟩, hm, fun h' tk' hm' hs => wpAny_pure ?_⟩
  obtain ⟨od', es, ep, ho, hx, hdd, he, his, hn⟩ := hm'
  have he : es.toList = [(k, b, vv)].map (entryOfKey (nestedKind X.prog X.w)) := he
  refine ⟨.ref s.heap.objs.size, _, nk_write I2 ⟨od1, hd⟩ hs ho, rfl, q2 od' ⟨hx, hsys, ⟨es, ep, [(k, b, vv)], hdd, fun w => ?_, .cons ⟨rfl, rfl, rv⟩ .nil, List.nodup_cons.mpr ⟨fun h => (nomatch h), List.nodup_nil⟩⟩, fun p hp => ?_, by show 1 ≤ sizeLine; rw [sizeLine_eq]; omega⟩⟩
  · rw [he]
    show [DictEntry.mk _ _ _] = [DictEntry.mk _ _ _]
    rw [show (nestedKind X.prog X.w).hash k = k.hash w from hash_w X.w w k _ hkv]
  · rw [List.mem_singleton.mp hp]
    exact hdp
def wDicOne (wk wv : WE) : WE := fun ρ S Q => ∀ a, S a = none → wk ρ (S.set a (.dicT [] [])) fun y ρ1 S1 => wv ρ1 S1 fun v ρ2 S2 => ∃ k, y = nkD k ∧ okN k = true ∧ S2 a = some (.dicT [] []) ∧ Q (.ref a) ρ2 (S2.set a (.dicT [k] [v]))
theorem re_dicOne (hk : RE K L tk wk) (hv : RE K L tv wv) : RE K L (tDOneN K tk tv) (wDicOne wk wv) := by
  intro F ρ S σ H Q R m q kk p od hp hf
  obtain ⟨sp, fp⟩ := m.fs.notS hp
  have m0 := m.step (ExF.refl F) (m.fs.alloc (m := .dicT [] []) hp rfl ⟨od, [], upd_same, hf, rfl, fun _ h => (nomatch h), .nil⟩)
  refine hk F ρ _ σ _ _ _ m0 (q p sp) fun y H1 dy ρ1 S1 F1 e1 m1 r1 q1 => ?_
  refine hv F1 ρ1 S1 σ H1 _ _ m1 q1 fun v H2 dv ρ2 S2 F2 e2 m2 r2 ⟨k, hy, ok, hs, q2⟩ => ?_
  subst hy
  obtain ⟨h1, h2, h3⟩ := okN_iff.mp ok
  have hkv := nkv_of k y h2 (r1.up e2)
  obtain ⟨ks', rfl⟩ := nkD_tk h1
  have hk' := hkv
  cases hk' with
  | @tup _ b vs _ _ =>
    obtain ⟨_, od1, kvs, k1, k2, k3, k4, k5⟩ := m2.fs.st p _ hs
    obtain rfl : kvs = [] := List.map_eq_nil_iff.mp k3
    refine ⟨F2, .tup ks', b, od1, rfl, m2.fs.fr, hkv, ok, k1, k2, fun od' hf' => ?_⟩
    have w : FS K F2 (S2.set p (.dicT [.tup ks'] [dv])) (upd H2 p (NkO p od')) := m2.fs.write hs rfl ⟨od', [(.tup ks', b, v)], upd_same, hf', rfl, fun p' hp' => by rw [List.mem_singleton.mp hp']; exact hkv, .cons r2 .nil⟩
    exact kk _ _ _ ρ2 _ F2 (e1.trans e2) (m2.step (ExF.refl F2) w) (.ref p) q2
theorem de_dicOne (K : PySem.W.Frag) (hu : X.A.units + 65 < cLine) (hk : DE X L ke tk wk) (hv : DE X L ve tv wv) (hK : X.K = K := by rfl)
    (hshape : (evalEachOpt [some ke] X.env).zip ((evalEach [ve] X.env).map fun v => do let x ← v; standAt pos; pure x) = [(eval ke X.env, do let x ← eval ve X.env; standAt pos; pure x)].map fun p => (some p.1, p.2) := by rfl) :
    DE X L (.Dict [some ke] [ve] pos) (tDOneN K tk tv) (wDicOne wk wv) := by
  subst hK
  exact ⟨pe_doneN hu hk.pe hv.pe hshape, re_dicOne hk.re hv.re⟩
end
end DL
/-! DL32: dict comprehensions with tuples as keys. -/
namespace DL
open PySem PySem.Spec PyProof.Rows L2
section
variable {X : Cx} {pins : List (Addr × Obj)} {σ : L2.St} {H : Hp} {s : Shared} {a : Addr} {kvs : List (NestedKey × Addr × V)} {k : NestedKey} {v : V} {r : Value}
/-- d[y] = v, by a comprehension -/
theorem nk_dictSet {Q : Unit → Shared → Prop} {E : Value → Shared → Prop} {F : Hp} {od : Obj} (hu : X.A.units + 10 < cLine) (I : Inv X pins σ H s) (e : ExF F H) (h1 : H a = some (NkO a od)) (h2 : NkF a od kvs) (h3 : ∀ p ∈ kvs, NkV X.K F p.1 (.ref p.2.1)) {b : Addr}
    (hk : NkV X.K F k (.ref b)) (ok : okN k = true) (hl : kvs.length < sizeLine) (rv : RelV v r) (h : ∀ od' s', NkF a od' (putN kvs k b v) → Inv X pins σ (upd H a (NkO a od')) s' → Q () s') : wpAny (model X.prog X.w) X.A (dictSet a (.ref b) r) Q E s := by
  obtain ⟨xs, hm, kn, hsys, hz⟩ := NkAt.dict I ⟨F, od, e, h1, h2, h3⟩
  obtain ⟨_, _, hdp⟩ := okN_iff.mp ok
  have hkey : (nestedKind X.prog X.w).is s.heap k b := ⟨nk_is I e _ _ _ hk rfl, hdp⟩
  refine wpAny_dictSet_heap (knd := nestedKind X.prog X.w) (hsz := by rw [← Paired.length kn]; exact hz) (by show X.A.units + 8 < cLine; omega) hkey hm fun h' hm' hs => ?_
  obtain ⟨od', es, ep, ho, hx, hd, he, his, hn⟩ := hm'
  have knp := kn.put (k := k) (b := b) rv
  refine h od' _ ⟨hx, hsys, ⟨es, ep, _, hd, fun w => ?_, knp, hn⟩, fun p hp => ?_, ?_⟩ (nk_write I ⟨od, h1⟩ hs ho)
  · rw [he]
    refine List.map_congr_left fun x hx => ?_
    obtain ⟨p, hp, e1, e2⟩ := KN.mem knp x hx
    have hv : ∃ v, NkV X.K F x.1 v := by
      rcases putN_mem hp with ⟨p', hp', e3, _⟩ | ⟨e3, _⟩
      · rw [← e1, ← e3]; exact ⟨_, h3 p' hp'⟩
      · rw [← e1, e3]; exact ⟨_, hk⟩
    obtain ⟨v0, hv⟩ := hv
    show DictEntry.mk _ _ _ = DictEntry.mk _ _ _
    rw [show (nestedKind X.prog X.w).hash x.1 = x.1.hash w from hash_w X.w w x.1 v0 hv]
  · rcases putN_mem hp with ⟨p', hp', e3, _⟩ | ⟨e3, _⟩
    · rw [← e3]; exact h2.dep p' hp'
    · rw [e3]; exact hdp
  · have := putN_len (kvs := kvs) (k := k) (v := v) b
    omega
end
/-! ### the comprehension: D the new dict -/
/-- one turn's end: the pair goes into D -/
def dcEnd (K : PySem.W.Frag) (D : Addr) (y z : V) (H5 : Hp) (Nx : Hp → Prop) : Prop := ∃ F od kvs k c, y = .ref c ∧ ExF F H5 ∧ H5 D = some (NkO D od) ∧ NkF D od kvs ∧ (∀ p ∈ kvs, NkV K F p.1 (.ref p.2.1)) ∧ NkV K F k (.ref c) ∧ okN k = true ∧ kvs.length < sizeLine ∧
  ∀ od', NkF D od' (putN kvs k c z) → Nx (upd H5 D (NkO D od'))
def tDcN (K : PySem.W.Frag) (wi : TI) (g : TG) (tt : TT) (tk tv : TE) (vs : List Nat) : TE := fun σ H Q => wi σ H fun J H1 => ∀ D od, H1 D = none → NkF D od [] → ∃ W : Nat → Nat → Hp → Prop, (∃ m, W 0 m (upd H1 D (NkO D od))) ∧ ∀ i m H, W i m H →
  (J.stop i H ∧ Q (.ref D) H) ∨ (J.go i H ∧ ∃ Nx : Hp → Prop, (∀ H', Nx H' → ∃ m', m' < m ∧ W (i + 1) m' H') ∧ ∀ x H', J.yld i H x H' → g x (wipe σ vs) H' fun σ2 H2 => wipe σ2 vs = wipe σ vs ∧ tt σ2 H2 fun b H3 =>
    if b = true then tk σ2 H3 fun y H4 => tv σ2 H4 fun z H5 => dcEnd K D y z H5 Nx else Nx H3)
section
variable {X : Cx}
theorem pe_dcN {kx vx tg iter : Expr} {ifs : List Expr} {scope : Scope} {own : List (Str × Nat)} {pos : Pos} {wi : TI} {g : TG} {tt : TT} {tk tv : TE} (hu : X.A.units + 65 < cLine) (hc : X.calm = true) (hN : X.N.Nodup) (hi : PI X tg iter wi) (ok : BlkOk X.N X.env.scope scope own)
    (hg : ∀ (s : Shared) (H : Hp) (C : Addr) (cl : List (Str × Addr)) (fp : List Addr), PG (X.blk s H scope (compEnvC scope cl C X.env) fp) tg g) (ht : ∀ (s : Shared) (H : Hp) (C : Addr) (cl : List (Str × Addr)) (fp : List Addr), PTs (X.blk s H scope (compEnvC scope cl C X.env) fp) ifs tt)
    (hk : ∀ (s : Shared) (H : Hp) (C : Addr) (cl : List (Str × Addr)) (fp : List Addr), PE (X.blk s H scope (compEnvC scope cl C X.env) fp) kx tk)
    (he : ∀ (s : Shared) (H : Hp) (C : Addr) (cl : List (Str × Addr)) (fp : List Addr), PE (X.blk s H scope (compEnvC scope cl C X.env) fp) vx tv) (hs : ∀ x, foldedSetIterable iter X.env x = pure x := by intro _; rfl) :
    PE X (.DictComp kx vx [⟨tg, iter, ifs, 0⟩] scope pos) (tDcN X.K wi g tt tk tv (own.map (·.2))) := by
  refine ⟨fun pins s σ H Q I h => ?_⟩
  rw [arm_eval_DictComp]
  have hfree : ∀ y ∈ scope.names, y.2 = .free → ∃ c, X.env.cells.lookup y.1 = some c := fun y hy e => by
    rcases ok.free y hy e with k | k
    · exact I.ok.has _ (.inl k)
    · exact I.ok.has _ (.inr k)
  refine wpAny_comprehension_free (use := none) rfl hs (closure_ok hfree) ok.kind (fun y hy e => by rw [ok.uniq y hy, e])
    (thn (hi.run pins s σ H _ I h) fun xv s1 hx => thn hx fun itv s2 h2 => ?_)
  obtain ⟨it, fp, tn, J, H2, e, I2, T, st2, f2, q⟩ := h2
  subst e
  refine wpAny_newObj_type (newEnv_comp ?_)
  -- the new dict's place
  have I3 := I2.laid (a := s2.heap.objs.size) (o := NkO s2.heap.objs.size { cls := .type "dict", data := .dict #[] }) (t' := s2.toks) (fun _ _ q => Heap.get?_push_of_some _ q) (Nat.le_refl _)
    ⟨Heap.get?_push_size _ rfl, ⟨_, Heap.get?_push_size _ rfl⟩, fun h1 h2 z st => st _ z⟩
  obtain ⟨W, ⟨m0, w0⟩, turn⟩ := q s2.heap.objs.size { cls := .type "dict", data := .dict #[] } (I2.hok.fresh (Nat.le_refl _)) ⟨⟨rfl, rfl, rfl⟩, beq_eq_false_iff_ne.mpr (Ne.symm (Nat.ne_of_lt I2.big)), ⟨#[], 0, [], rfl, fun _ => rfl, .nil, List.nodup_nil⟩, fun _ h => (nomatch h), Nat.zero_le _⟩
  have sz : ∀ b ∈ fp, b < s2.heap.objs.size := fun b hb => by
    obtain ⟨o, e, _⟩ := T.obj _ _ st2 b hb
    exact Heap.lt_size e
  generalize hD : s2.heap.objs.size = D at *
  generalize hs3 : ({ s2 with heap := s2.heap.push { cls := .type "dict", data := .dict #[] } } : Shared) = s3 at *
  have h3 : s3.heap = s2.heap.push { cls := .type "dict", data := .dict #[] } := by rw [← hs3]
  generalize hH3 : upd H2 D (NkO D { cls := .type "dict", data := .dict #[] }) = H3 at *
  have f3 : ∀ b ∈ fp, FpOk X pins H3 b ∧ b < s3.heap.objs.size := fun b hb => by
    have hlt := sz b hb
    refine ⟨⟨?_, (f2 b hb).2⟩, by rw [h3, Heap.size_push, hD]; exact Nat.lt_succ_of_lt hlt⟩
    rw [← hH3, upd_ne (Nat.ne_of_lt hlt)]
    exact (f2 b hb).1
  have st3 : tn 0 s3.heap := T.keep _ _ _ st2 fun b _ o e => by rw [h3]; exact Heap.get?_push_of_some _ e
  have I4 := block_start I3 ok hN f3
  have pg := hg s3 H3 s3.heap.objs.size (cellsFrom (s3.heap.objs.size + 1) scope.names (cloFrom X.env.cells scope.names [])) fp
  have pt := ht s3 H3 s3.heap.objs.size (cellsFrom (s3.heap.objs.size + 1) scope.names (cloFrom X.env.cells scope.names [])) fp
  have pk := hk s3 H3 s3.heap.objs.size (cellsFrom (s3.heap.objs.size + 1) scope.names (cloFrom X.env.cells scope.names [])) fp
  have pv := he s3 H3 s3.heap.objs.size (cellsFrom (s3.heap.objs.size + 1) scope.names (cloFrom X.env.cells scope.names [])) fp
  show codeAny _ _ (.compStart (.DictComp kx vx [⟨tg, iter, ifs, 0⟩] scope pos) 0 (.ref it) (.ref D) (compEnvC scope (cellsFrom (s3.heap.objs.size + 1) scope.names (cloFrom X.env.cells scope.names [])) s3.heap.objs.size X.env)) _ { s3 with heap := pushCells (s3.heap.push { cls := .type "dict", data := .dict #[] }) scope.names }
  have nfp : ∀ b ∈ fp, H3 b = none := fun b hb => (f3 b hb).1.1
  generalize hce : compEnvC scope (cellsFrom (s3.heap.objs.size + 1) scope.names (cloFrom X.env.cells scope.names [])) s3.heap.objs.size X.env = ce at I4 pg pt pk pv ⊢
  have cL : ce.locals = s3.heap.objs.size := by rw [← hce]; rfl
  generalize hs4 : ({ s3 with heap := pushCells (s3.heap.push { cls := .type "dict", data := .dict #[] }) scope.names } : Shared) = s4 at I4 ⊢
  have st4 : tn 0 s4.heap := T.keep _ _ _ st3 fun b _ o e => by rw [← hs4]; exact pushCells_keeps _ _ _ _ (Heap.get?_push_of_some _ e)
  have stat : ∀ {σ' : L2.St} {H' : Hp} {s' : Shared}, Inv (X.blk s3 H3 scope ce fp) [] σ' H' s' → (∀ b ∈ fp, H' b = none) → ∀ b ∈ fp, FpOk (X.blk s3 H3 scope ce fp) [] H' b := fun {σ' H' s'} I' hn b hb =>
    ⟨hn b hb, (I'.ok.exf b hb).1, I'.ok.exfs b hb, .inl hb, fun x c e => (I'.ok.exf b hb).2 x c e, fun p hp => absurd (show p ∈ ([] : List (Addr × Obj)) ++ [] from hp) (by simp)⟩
  refine codeAny_compStart_dict ?_ (T.self X.A 0 _ _ _ st4 ?_)
  all_goals
    refine compLoop_anyD (fun n s' => ∃ i H', Inv (X.blk s3 H3 scope ce fp) [] (wipe σ (own.map (·.2))) H' s' ∧ tn i s'.heap ∧ (∀ b ∈ fp, H' b = none) ∧ W i n H') ?_ m0 ⟨0, H3, I4, st4, nfp, w0⟩
    rintro n s5 ⟨i, H5, I5, st5, n5, w5⟩
    rcases turn i n H5 w5 with ⟨stop, qq⟩ | ⟨go, Nx, hNx, step⟩
    · refine thnF (T.done (X.blk s3 H3 scope ce fp) rfl rfl rfl hc i [] s5 _ H5 (fun _ _ => False) I5 (stat I5 n5) st5 stop) fun r s6 ⟨hr, I6⟩ => ?_
      subst hr
      have I7 : Inv X pins σ H5 s6 := I3.call' (ch := fp) I6.os I6.base I6.hok I6.bare fun b hb => ⟨(f3 b hb).1.2.2.2.1, (f3 b hb).1.2.1, (f3 b hb).1.2.2.2.2.1, (f3 b hb).1.2.2.2.2.2⟩
      have nC : H5 s3.heap.objs.size = none := by
        have z : H5 ce.locals = none := I6.free
        rw [cL] at z
        exact z
      obtain ⟨m, hn, _⟩ := I6.loc
      have hn : s6.heap.Ns ce.locals m := hn
      rw [cL] at hn
      refine ⟨m, hn, fun h'' sb => ?_⟩
      obtain ⟨g0, g1, g2, g3, g4, g5⟩ := I3.fpOk (Nat.le_refl _) nC
      exact ⟨.ref D, H5, I7.turned (t' := s6.toks) (fun b o hb e => (sb.2 b hb).trans e) g0 g1 g3 g4 g5, rfl, qq⟩
    · refine thnF (T.item (X.blk s3 H3 scope ce fp) rfl rfl rfl hc i [] s5 _ H5 (fun _ _ => False) I5 (stat I5 n5) st5 go) fun r s6 ⟨u, hr, h6⟩ => ?_
      subst hr
      refine thnF h6 fun _ s7 ⟨x, H7, I7, r7, y7, st7, n7⟩ => ?_
      have I7' := I7.pinned (stat I7 n7) (T.obj _ _ st7)
      refine thnF (pg.run _ s7 _ H7 x u _ I7' r7 (step x H7 y7)) fun _ s8 ⟨σ8, H8, I8, hw8, q8⟩ => ?_
      refine thnF (pt.run _ s8 σ8 H8 _ I8 q8) fun b s9 ⟨H9, I9, q9⟩ => ?_
      have fin : ∀ {s' : Shared} {H' : Hp}, Inv (X.blk s3 H3 scope ce fp) ([] ++ pinsAt fp s7.heap) σ8 H' s' → Nx H' → ∃ m, m < n ∧ ∃ i H', Inv (X.blk s3 H3 scope ce fp) [] (wipe σ (own.map (·.2))) H' s' ∧ tn i s'.heap ∧ (∀ b ∈ fp, H' b = none) ∧ W i m H' := fun {s' H'} I' nx => by
        obtain ⟨m', hm, w'⟩ := hNx H' nx
        have pin' : ∀ b ∈ fp, ∀ o, s7.heap.get? b = some o → s'.heap.get? b = some o ∧ H' b = none := fun b hb o e =>
          let z := I'.pin (b, o) (List.mem_append_right _ (List.mem_append_right _ (mem_pinsAt hb e)))
          ⟨z.1, z.2.1⟩
        have hl : (wipe σ (own.map (·.2))).length = σ8.length := by rw [← hw8, wipe_length]
        refine ⟨m', hm, i + 1, H', (I'.unpinned (pins := [])).weak hl (fun j v e => ?_), T.keep _ _ _ st7 fun b hb o e => (pin' b hb o e).1, fun b hb => ?_, w'⟩
        · rw [← hw8] at e
          exact (wipe_some e).1
        · obtain ⟨o, e, _⟩ := T.obj _ _ st7 b hb
          exact (pin' b hb o e).2
      cases b with
      | false =>
        simp only [Bool.false_eq_true, if_false] at q9 ⊢
        exact fin I9 q9
      | true =>
        simp only [if_true] at q9 ⊢
        refine thnF (pk.run _ s9 σ8 H9 _ I9 q9) fun z s10 ⟨yk, H10, I10, r10, q10⟩ => ?_
        refine thnF (pv.run _ s10 σ8 H10 _ I10 q10) fun z2 s11 ⟨yv, H11, I11, r11, F, od, kvs, k, c, ek, ex, hD11, hf11, hk11, hkv, okk, hz11, nx⟩ => ?_
        subst ek
        obtain rfl : z = Value.ref c := r10
        exact nk_dictSet (X := X.blk s3 H3 scope ce fp) (by show X.A.units + 10 < cLine; omega) I11 ex hD11 hf11 hk11 hkv okk hz11 r11 fun od' s12 hf' I12 => fin I12 (nx od' hf')
end
end DL
/-! DL33: dict comprehensions with tuples as keys, over data. -/
namespace DL
open PySem PySem.Spec PyProof.Rows L2
section
variable {J : It} {n : Nat} {G : Hp → Prop} {Y : Nat → Hp → V → Hp → Prop}
theorem dcN_it (w : Walk J n G Y) {K : PySem.W.Frag} {g : TG} {tt : TT} {tk tv : TE} {vs : List Nat} {σ : L2.St} {H0 : Hp} {D : Addr} {Qd : Hp → Prop} (Pv : Nat → Hp → Prop) (h0 : Pv 0 H0) (hG : ∀ i H, i ≤ n → Pv i H → G H)
    (hs : ∀ i x H H', i < n → Pv i H → Y i H x H' → g x (wipe σ vs) H' fun σ2 H2 => wipe σ2 vs = wipe σ vs ∧ tt σ2 H2 fun b H3 =>
      if b = true then tk σ2 H3 fun y H4 => tv σ2 H4 fun z H5 => dcEnd K D y z H5 (Pv (i + 1)) else Pv (i + 1) H3) (hd : ∀ H, Pv n H → Qd H) :
    ∃ W : Nat → Nat → Hp → Prop, (∃ m, W 0 m H0) ∧ ∀ i m H, W i m H →
      (J.stop i H ∧ Qd H) ∨ (J.go i H ∧ ∃ Nx : Hp → Prop, (∀ H', Nx H' → ∃ m', m' < m ∧ W (i + 1) m' H') ∧ ∀ x H', J.yld i H x H' → g x (wipe σ vs) H' fun σ2 H2 => wipe σ2 vs = wipe σ vs ∧ tt σ2 H2 fun b H3 =>
        if b = true then tk σ2 H3 fun y H4 => tv σ2 H4 fun z H5 => dcEnd K D y z H5 Nx else Nx H3) := by
  refine ⟨fun i m H => m + i = n ∧ Pv i H, ⟨n, rfl, h0⟩, fun i m H ⟨e, p⟩ => ?_⟩
  cases m with
  | zero =>
    have e : i = n := by omega
    subst e
    exact .inl ⟨w.stops H (hG i H (Nat.le_refl i) p), hd H p⟩
  | succ m =>
    have hi : i < n := by omega
    have q := hG i H (Nat.le_of_lt hi) p
    exact .inr ⟨w.goes i H hi q, Pv (i + 1), fun H' p' => ⟨m, Nat.lt_succ_self m, by omega, p'⟩, fun x H' y => hs i x H H' hi p (w.yields i H x H' hi q y)⟩
end
/-- the dict that is made stands at a -/
def dcWN (a : Addr) (g : MS → Prop) (wg : WG) (wt : WT) (wk wv : WE) (Q : MS → Prop) (ρ0 : Rho) : List D → MS → Prop
  | [] => fun S => g S ∧ Q S
  | d :: r => fun S => g S ∧ wg d ρ0 S fun ρ1 S1 => wt ρ1 S1 fun b ρ2 S2 => if b = true then wk ρ2 S2 fun y ρ3 S3 => wv ρ3 S3 fun z _ S4 => ∃ ks ds k, y = nkD k ∧ okN k = true ∧ S4 a = some (.dicT ks ds) ∧ ks.length < sizeLine ∧ dcWN a g wg wt wk wv Q ρ0 r (S4.set a (putDicT k z ks ds)) else dcWN a g wg wt wk wv Q ρ0 r S2
theorem dcWN_g {a : Addr} {g : MS → Prop} {wg : WG} {wt : WT} {wk wv : WE} {Q : MS → Prop} {ρ0 : Rho} : ∀ {ds : List D} {S : MS}, dcWN a g wg wt wk wv Q ρ0 ds S → g S
  | [], _, h => h.1
  | _ :: _, _, h => h.1
def wDcN (vs : List Nat) (wi : WI) (wg : WG) (wt : WT) (wk wv : WE) : WE := fun ρ S Q => wi ρ S fun ds g ρ1 S1 => ∀ a, S1 a = none → dcWN a g wg wt wk wv (fun S2 => Q (.ref a) ρ1 S2) (wipeR ρ1 vs) ds (S1.set a (.dicT [] []))
section
variable {X : Cx} {L : Lk} {pos : Pos} {K : PySem.W.Frag}
theorem re_dcN {vs : List Nat} {ti : TI} {wi : WI} {g : TG} {wg : WG} {tt : TT} {wt : WT} {tk tv : TE} {wk wv : WE} (hi : RI K L ti wi) (hg : RG K L vs g wg) (ht : RT K L tt wt) (hk : RE K L tk wk) (hv : RE K L tv wv) : RE K L (tDcN K ti g tt tk tv vs) (wDcN vs wi wg wt wk wv) := by
  intro F ρ S σ H Q R m q k
  refine hi F ρ S σ H _ _ m q fun J H1 ds gd ρ1 S1 F1 e1 m1 wa q1 => ?_
  intro p od0 hp hf0
  obtain ⟨sp, fp⟩ := m1.fs.notS hp
  have x0 : FS K F1 (S1.set p (.dicT [] [])) (upd H1 p (NkO p od0)) := m1.fs.alloc (m := .dicT [] []) hp rfl ⟨od0, [], upd_same, hf0, rfl, fun _ h => (nomatch h), .nil⟩
  refine dcN_it (walk_of_d wa) (fun i H => ∃ F' S', ExF F1 F' ∧ FS K F' S' H ∧ dcWN p gd wg wt wk wv (fun S2 => Q (.ref p) ρ1 S2) (wipeR ρ1 vs) (ds.drop i) S') ⟨F1, _, ExF.refl F1, x0, q1 p sp⟩ (fun i H _ ⟨F', S', e, x', q'⟩ => ⟨F', S', e, x', dcWN_g q'⟩) ?_ ?_
  · rintro i x H2 H3 hlt ⟨F', S', e, x', q'⟩ y
    obtain ⟨d, F3, hd, e3, x3, r3⟩ := y F' S' e x' (dcWN_g q')
    have hdrop : ds.drop i = d :: ds.drop (i + 1) := by
      obtain ⟨h1, h2⟩ := List.getElem?_eq_some_iff.mp hd
      rw [← h2]
      exact List.drop_eq_getElem_cons h1
    rw [hdrop] at q'
    have m3 : Mt K L F3 (wipeR ρ1 vs) S' (L2.wipe σ vs) H3 := (m1.wipe vs).step (e.trans e3) x3
    have fin : ∀ {F5 : Hp} {S5 : MS} {H5 : Hp}, ExF F3 F5 → FS K F5 S5 H5 → dcWN p gd wg wt wk wv (fun S2 => Q (.ref p) ρ1 S2) (wipeR ρ1 vs) (ds.drop (i + 1)) S5 →
        ∃ F' S', ExF F1 F' ∧ FS K F' S' H5 ∧ dcWN p gd wg wt wk wv (fun S2 => Q (.ref p) ρ1 S2) (wipeR ρ1 vs) (ds.drop (i + 1)) S' := fun e5 x5 q5 => ⟨_, _, (e.trans e3).trans e5, x5, q5⟩
    refine hg F3 _ S' _ H3 d x _ _ m3 r3 q'.2 fun F4 ρ4 S4 σ4 H4 e4 m4 w4 q4 => ⟨by
      rw [w4]
      exact wipe_eq (wipe_length σ vs) fun j hj => by rw [wipe_get, if_neg (fun z => hj z.1)], ?_⟩
    refine ht F4 ρ4 S4 σ4 H4 _ _ m4 q4 fun b H5 ρ5 S5 F5 e5 m5 q5 => ?_
    cases b with
    | false =>
      rw [if_neg Bool.false_ne_true] at q5 ⊢
      exact fin (e4.trans e5) m5.fs q5
    | true =>
      rw [if_pos rfl] at q5 ⊢
      refine hk F5 ρ5 S5 σ4 H5 _ _ m5 q5 fun y H6 dy ρ6 S6 F6 e6 m6 r6 q6 => ?_
      refine hv F6 ρ6 S6 σ4 H6 _ _ m6 q6 fun z H7 dz ρ7 S7 F7 e7 m7 r7 ⟨ks, ds', kk, hy, ok, ha, hz, q7⟩ => ?_
      subst hy
      obtain ⟨h1, h2, h3⟩ := okN_iff.mp ok
      have hkv := nkv_of kk y h2 (r6.up e7)
      obtain ⟨ks', rfl⟩ := nkD_tk h1
      have hk' := hkv
      cases hk' with
      | @tup _ c vs' _ _ =>
        obtain ⟨_, od, kvs, k1, k2, k3, k4, k5⟩ := m7.fs.st p _ ha
        subst k3
        rw [List.length_map] at hz
        refine ⟨F7, od, kvs, .tup ks', c, rfl, m7.fs.fr, k1, k2, k4, hkv, ok, hz, fun od' hf => fin (((e4.trans e5).trans e6).trans e7) ?_ q7⟩
        have keys : ∀ q ∈ putN kvs (.tup ks') c z, NkV K F7 q.1 (.ref q.2.1) := fun q hq => by
          rcases putN_mem hq with ⟨p', hp', e3, e4⟩ | ⟨e3, e4⟩
          · rw [← e3, ← e4]; exact k4 p' hp'
          · rw [e3, e4]; exact hkv
        unfold putDicT
        by_cases hh : hasN (.tup ks') (kvs.map (·.1)) = true
        · rw [if_pos hh]
          have ep : putN kvs (.tup ks') c z = kvs.map fun q => if q.1 = .tup ks' then (q.1, q.2.1, z) else q := by
            unfold putN
            rw [valN_mem, if_pos hh]
          rw [ep] at hf keys
          exact m7.fs.write ha rfl ⟨od', _, upd_same, hf, keysN_repl kvs, keys, reps_putNs r7 k5⟩
        · rw [if_neg hh]
          have ep : putN kvs (.tup ks') c z = kvs ++ [(.tup ks', c, z)] := by
            unfold putN
            rw [valN_mem, if_neg hh]
          rw [ep] at hf keys
          exact m7.fs.write ha rfl ⟨od', _, upd_same, hf, by rw [List.map_append]; rfl, keys, by rw [List.map_append]; exact k5.append (.cons r7 .nil)⟩
  · rintro H2 ⟨F', S', e, x', q'⟩
    rw [List.drop_length] at q'
    exact k _ H2 _ ρ1 S' F' (e1.trans e) (m1.step e x') (.ref p) q'.2
theorem de_dcN (K : PySem.W.Frag) {kx vx tg iter : Expr} {ifs : List Expr} {scope : Scope} {ti : TI} {wi : WI} {g : TG} {wg : WG} {tt : TT} {wt : WT} {tk tv : TE} {wk wv : WE} (hu : X.A.units + 65 < cLine) (own : List (Str × Nat)) (hc : X.calm = true) (hN : X.N.Nodup) (hi : DI X L tg iter ti wi) (ok : BlkOk X.N X.env.scope scope own)
    (hg : ∀ (s : Shared) (H : Hp) (C : Addr) (cl : List (Str × Addr)) (fp : List Addr), DG (X.blk s H scope (compEnvC scope cl C X.env) fp) L (own.map (·.2)) tg g wg) (ht : ∀ (s : Shared) (H : Hp) (C : Addr) (cl : List (Str × Addr)) (fp : List Addr), DTs (X.blk s H scope (compEnvC scope cl C X.env) fp) L ifs tt wt)
    (hk : ∀ (s : Shared) (H : Hp) (C : Addr) (cl : List (Str × Addr)) (fp : List Addr), DE (X.blk s H scope (compEnvC scope cl C X.env) fp) L kx tk wk) (hv : ∀ (s : Shared) (H : Hp) (C : Addr) (cl : List (Str × Addr)) (fp : List Addr), DE (X.blk s H scope (compEnvC scope cl C X.env) fp) L vx tv wv)
    (hs : ∀ x, foldedSetIterable iter X.env x = pure x := by intro _; rfl) (hK : X.K = K := by rfl) : DE X L (.DictComp kx vx [⟨tg, iter, ifs, 0⟩] scope pos) (tDcN K ti g tt tk tv (own.map (·.2))) (wDcN (own.map (·.2)) wi wg wt wk wv) := by
  subst hK
  exact ⟨pe_dcN hu hc hN hi.pi ok (fun s H C cl fp => (hg s H C cl fp).pg) (fun s H C cl fp => (ht s H C cl fp).pts) (fun s H C cl fp => (hk s H C cl fp).pe) (fun s H C cl fp => (hv s H C cl fp).pe) hs,
    re_dcN hi.ri (hg X.s_0 X.H_0 0 [] []).rg (ht X.s_0 X.H_0 0 [] []).rt (hk X.s_0 X.H_0 0 [] []).re (hv X.s_0 X.H_0 0 [] []).re⟩
end
/-- a comprehension whose keys are new each time -/
theorem dcWN_new {α : Type} {l : List α} {f : α → D} (kf : α → NestedKey) (vf : α → D) {g : MS → Prop} {wg : WG} {wt : WT} {wk wv : WE} {ρ0 : Rho} {S0 : MS} {Q : MS → Prop} {a : Addr} (hg : ∀ S, Sub S0 S → g S) (ha : S0 a = none) (hn : (l.map kf).Nodup) (hok : ∀ x ∈ l, okN (kf x) = true) (hz : l.length ≤ sizeLine)
    (hs : ∀ x ∈ l, ∀ S2, Sub S0 S2 → ∀ (N : D → D → MS → Prop) (M : MS → Prop), N (nkD (kf x)) (vf x) S2 → wg (f x) ρ0 S2 fun ρ1 S1 => wt ρ1 S1 fun b ρ2 S2 => if b = true then wk ρ2 S2 fun y ρ3 S3 => wv ρ3 S3 fun z _ S4 => N y z S4 else M S2)
    (q : Q (S0.set a (.dicT (l.map kf) (l.map vf)))) : dcWN a g wg wt wk wv Q ρ0 (l.map f) (S0.set a (.dicT [] [])) := by
  have key : ∀ (r dn : List α), dn ++ r = l → dcWN a g wg wt wk wv Q ρ0 (r.map f) (S0.set a (.dicT (dn.map kf) (dn.map vf))) := by
    intro r
    induction r with
    | nil =>
      intro dn e
      rw [List.append_nil] at e
      subst e
      exact ⟨hg _ (Sub.set ha), q⟩
    | cons x r ih =>
      intro dn e
      have hx : x ∈ l := by rw [← e]; simp
      refine ⟨hg _ (Sub.set ha), ?_⟩
      refine hs x hx (S0.set a (.dicT (dn.map kf) (dn.map vf))) (Sub.set ha) (fun y z S4 => ∃ ks ds k, y = nkD k ∧ okN k = true ∧ S4 a = some (.dicT ks ds) ∧ ks.length < sizeLine ∧ dcWN a g wg wt wk wv Q ρ0 (r.map f) (S4.set a (putDicT k z ks ds))) _ ?_
      · refine ⟨_, _, kf x, rfl, hok x hx, MS.set_same, ?_, ?_⟩
        · rw [List.length_map]
          have : dn.length + (r.length + 1) = l.length := by rw [← e]; simp
          omega
        · have hk : hasN (kf x) (dn.map kf) = false := by
            rw [← e, List.map_append, List.nodup_append] at hn
            unfold hasN
            rw [← Bool.not_eq_true, List.any_eq_true]
            rintro ⟨y, hy, e2⟩
            exact hn.2.2 y hy (kf x) (by simp) (of_decide_eq_true e2)
          rw [MS.set_set, putDicT, hk, if_neg Bool.false_ne_true]
          have := ih (dn ++ [x]) (by rw [List.append_assoc]; exact e)
          rw [List.map_append, List.map_append] at this
          exact this
  exact key l [] rfl
end DL
/-! DL34: list.insert; sorted(set(x)), x a tuple of numbers. -/
namespace DL
open PySem PySem.Spec PyProof.Rows L2
section
variable {X : Cx} {K : PySem.W.Frag} {L : Lk}
def rInsert : V → List V → Hp → VK → Prop := fun x vs H Q => ∃ (l : Addr) (xs : List V) (i : Int) (y : V), x = .ref l ∧ vs = [.int i, y] ∧ H l = some (.lst xs) ∧ xs.length < sizeLine ∧ 0 ≤ i ∧ i < 2 ^ 63 ∧ Q .non (upd H l (.lst (xs.take i.toNat ++ [y] ++ xs.drop i.toNat)))
theorem mt_insertR : MtR X "list.insert" rInsert := mt_insert
def wInsert : D → List D → MS → KV2 → Prop := fun x xs S Q => ∃ a ds i d, x = .ref a ∧ xs = [.int i, d] ∧ S a = some (.lst ds) ∧ ds.length < sizeLine ∧ 0 ≤ i ∧ i < 2 ^ 63 ∧ Q .non (S.set a (.lst (ds.take i.toNat ++ [d] ++ ds.drop i.toNat)))
theorem rm_insert : RM K rInsert wInsert := by
  rintro F S H x vx xs vs Q R fs rx rs ⟨a, ds, i, d, rfl, rfl, hs, hz, h0, h1, q⟩ k
  cases rx
  cases rs with
  | cons r1 r2 =>
    cases r1
    cases r2 with
    | cons r2 r3 =>
      cases r3
      obtain ⟨_, us, hu, ru⟩ := fs.st a _ hs
      exact ⟨a, us, i, _, rfl, rfl, hu, by rw [← ru.length]; exact hz, h0, h1, k.put fs (m := .lst (ds.take i.toNat ++ [d] ++ ds.drop i.toNat)) hs rfl ⟨_, upd_same, ((ru.take i.toNat).append (.cons r2 .nil)).append (ru.drop i.toNat)⟩ .non q⟩
theorem sort_it {pins : List (Addr × Obj)} {σ : L2.St} {H1 : Hp} {s2 : Shared} {a : Addr} {T : Int → Bool} {c : Nat} {Q : VK} (hc : X.calm = true) (I : Inv X pins σ H1 s2) (R : SetR X.w s2.heap a T c) (hz : c < 64)
    (q : ∀ (ms : List Int) (p : Addr), ms.Pairwise (· < ·) → (∀ k : Int, k ∈ ms ↔ T k = true) → H1 p = none → Q (.ref p) (upd H1 p (.lst (ms.map V.int)))) : wpAny (model X.prog X.w) X.A (call (.builtin "sorted") [.ref a]) (EP X pins σ Q) X.xe s2 := by
  refine sorted_set R (I.ok.hd hc) hz fun s' p out c' ms k g o hp hg hi hs' hm hl' => ?_
  have hlen : (ms.map V.int).length ≤ sizeLine := by rw [List.length_map, hl', sizeLine_eq]; omega
  have hn : H1 p = none := I.hok.fresh hp
  have J : Inv X pins σ (upd H1 p (.lst (ms.map V.int))) { s2 with heap := s'.heap, gens := s'.gens, drawn := s'.drawn, toks := s'.toks } :=
    I.call (ch := []) (Un.laid k hp hn) (I.hok.laid k hp ⟨hlen, out.toList, c', vals_of_ints hi, hg⟩) (by rw [g]; exact I.bare) (fun _ z => nomatch z)
  have e : s' = { s2 with heap := s'.heap, gens := s'.gens, drawn := s'.drawn, toks := s'.toks } := by
    cases s'
    cases s2
    cases o
    rfl
  rw [e]
  exact ⟨.ref p, _, J, rfl, q ms p hs' hm hn⟩
/-- sorted(set(a)), a a tuple of numbers, fewer than 64 -/
def tSortSetT (K : PySem.W.Frag) (ta : TE) : TE := fun σ H Q => ta σ H fun x H1 => ∃ (l : Addr) (ns : List Int), x = V.ref l ∧ SqT K H1 l (ns.map V.int) ∧ ns.length < 60 ∧ ∀ (ms : List Int) (p : Addr), ms.Pairwise (· < ·) → (∀ k : Int, k ∈ ms ↔ k ∈ ns) → H1 p = none → Q (.ref p) (upd H1 p (.lst (ms.map V.int)))
theorem pe_sortSetT {e : Expr} {te : TE} {p1 p2 p3 p4 : Pos} (hc : X.calm = true) (hl : Gl X "sorted") (ml : X.mg "sorted" = none) (hs : Gl X "set") (ms : X.mg "set" = none) (he : PE X e te)
    (st : starEach [e] X.env = (false, eval e X.env) :: starEach [] X.env := by rfl) : PE X (.Call (.Name "sorted" p1) [.Call (.Name "set" p2) [e] [] p3] [] p4) (tSortSetT X.K te) := by
  refine ⟨fun pins s σ H Q I h => ?_⟩
  refine Call_ (ld_blt I hl ml PyProof.Rows.boot_sorted (PyProof.Rows.callWith_builtin1 (PyProof.Rows.args_cons (Call_ (ld_blt I hs ms PyProof.Rows.boot_set (PyProof.Rows.callWith_type1 (PyProof.Rows.args_cons (thn (he.run pins s σ H _ I h) ?_) st) st rfl))) rfl) rfl rfl))
  rintro v s1 ⟨x, H1, I1, rv, l, ns, hx, hq, hz, q⟩
  subst hx
  cases rv
  refine PyProof.Rows.args_nil ?_
  obtain ⟨its, rr, tu, _⟩ := I1.tuple hq
  have hin : IntsAre its.toArray.toList ns := by simpa using rr.ints
  refine call_set_tupI ns (I1.ok.hd hc) tu hin (by unfold scanBound; omega) fun h' tk c hS hc2 hk => ?_
  have I2 : Inv X pins σ H1 { s1 with heap := h', toks := tk } := I1.kept fun b o e => hk b o e
  refine PyProof.Rows.args_nil ?_
  exact sort_it hc I2 hS (by omega) fun ms p h1 h2 h3 => q ms p h1 (fun k => by rw [h2 k, decide_eq_true_eq]) h3
def wSortSetT (we : WE) : WE := fun ρ S Q => we ρ S fun x ρ1 S1 => ∃ ns : List Int, x = .tup (ns.map D.int) ∧ ns.length < 60 ∧ ∀ ms : List Int, ms.Pairwise (· < ·) → (∀ k, k ∈ ms ↔ k ∈ ns) → newL false (ms.map D.int) S1 fun d S2 => Q d ρ1 S2
theorem re_sortSetT {te : TE} {we : WE} (h : RE K L te we) : RE K L (tSortSetT K te) (wSortSetT we) := by
  intro F ρ S σ H Q R m q k
  refine h F ρ S σ H _ _ m q fun x H1 dx ρ1 S1 F1 e1 m1 r1 ⟨ns, ex, h1, q1⟩ => ?_
  subst ex
  obtain ⟨a, vs, rfl, g1, g2, _⟩ : RepT K F1 H1 (.tup (ns.map D.int)) x := rd_ok m1.fs r1
  have e := g2.ints
  subst e
  refine ⟨a, ns, rfl, g1, h1, fun ms p hp hm hn => ?_⟩
  have q2 := newL_f.mp (q1 ms hp hm)
  obtain ⟨sx, fx⟩ := m1.fs.notS hn
  have ex : ExF F1 (upd F1 p (.lst (ms.map V.int))) := ExF.new fx
  exact k _ _ _ ρ1 S1 _ (e1.trans ex) (m1.step ex (m1.fs.grow hn)) (.lst (.inl upd_same) (.of_ints ms)) q2
theorem de_sortSetT (K : PySem.W.Frag) {e : Expr} {te : TE} {we : WE} {p1 p2 p3 p4 : Pos} (hc : X.calm = true) (hl : Gl X "sorted") (ml : X.mg "sorted" = none) (hs : Gl X "set") (ms : X.mg "set" = none) (he : DE X L e te we)
    (st : starEach [e] X.env = (false, eval e X.env) :: starEach [] X.env := by rfl) (hK : X.K = K := by rfl) : DE X L (.Call (.Name "sorted" p1) [.Call (.Name "set" p2) [e] [] p3] [] p4) (tSortSetT K te) (wSortSetT we) := by
  subst hK
  exact ⟨pe_sortSetT hc hl ml hs ms he.pe st, re_sortSetT he.re⟩
end
end DL
/-! DL35: a comprehension {k: v for ..} of one value v: its keys are all that came. -/
namespace DL
open PySem PySem.Spec PyProof.Rows L2
theorem hasN_mem {k : NestedKey} {ks : List NestedKey} : hasN k ks = decide (k ∈ ks) := by
  unfold hasN
  rw [Bool.eq_iff_iff, List.any_eq_true, decide_eq_true_eq]
  constructor
  · rintro ⟨x, hx, e⟩
    rw [← of_decide_eq_true e]
    exact hx
  · exact fun h => ⟨k, h, decide_eq_true rfl⟩
theorem putNs_const {v : D} {k : NestedKey} : ∀ ks : List NestedKey, putNs k v ks (ks.map fun _ => v) = ks.map fun _ => v
  | [] => rfl
  | x :: ks => by
    rw [List.map_cons, putNs, putNs_const ks]
    split <;> rfl
theorem dcWN_set {α : Type} {l : List α} {f : α → D} (kf : α → NestedKey) (v : D) {g : MS → Prop} {wg : WG} {wt : WT} {wk wv : WE} {ρ0 : Rho} {S0 : MS} {Q : MS → Prop} {a : Addr} (hg : ∀ S, Sub S0 S → g S) (ha : S0 a = none) (hok : ∀ x ∈ l, okN (kf x) = true) (hz : l.length ≤ sizeLine)
    (hs : ∀ x ∈ l, ∀ S2, Sub S0 S2 → ∀ (N : D → D → MS → Prop) (M : MS → Prop), N (nkD (kf x)) v S2 → wg (f x) ρ0 S2 fun ρ1 S1 => wt ρ1 S1 fun b ρ2 S2 => if b = true then wk ρ2 S2 fun y ρ3 S3 => wv ρ3 S3 fun z _ S4 => N y z S4 else M S2)
    (q : ∀ ks : List NestedKey, (∀ k, k ∈ ks ↔ k ∈ l.map kf) → Q (S0.set a (.dicT ks (ks.map fun _ => v)))) : dcWN a g wg wt wk wv Q ρ0 (l.map f) (S0.set a (.dicT [] [])) := by
  have key : ∀ (r dn : List α) (ks : List NestedKey), dn ++ r = l → ks.length ≤ dn.length → (∀ k, k ∈ ks ↔ k ∈ dn.map kf) → dcWN a g wg wt wk wv Q ρ0 (r.map f) (S0.set a (.dicT ks (ks.map fun _ => v))) := by
    intro r
    induction r with
    | nil =>
      intro dn ks e _ hk
      rw [List.append_nil] at e
      subst e
      exact ⟨hg _ (Sub.set ha), q ks hk⟩
    | cons x r ih =>
      intro dn ks e hl hk
      have hx : x ∈ l := by rw [← e]; simp
      refine ⟨hg _ (Sub.set ha), ?_⟩
      refine hs x hx (S0.set a (.dicT ks (ks.map fun _ => v))) (Sub.set ha) (fun y z S4 => ∃ ks ds k, y = nkD k ∧ okN k = true ∧ S4 a = some (.dicT ks ds) ∧ ks.length < sizeLine ∧ dcWN a g wg wt wk wv Q ρ0 (r.map f) (S4.set a (putDicT k z ks ds))) _ ?_
      refine ⟨_, _, kf x, rfl, hok x hx, MS.set_same, ?_, ?_⟩
      · have : dn.length + (r.length + 1) = l.length := by rw [← e]; simp
        omega
      · rw [MS.set_set, putDicT, hasN_mem]
        by_cases h : kf x ∈ ks
        · rw [decide_eq_true h, if_pos rfl, putNs_const]
          refine ih (dn ++ [x]) ks (by rw [List.append_assoc]; exact e) (by rw [List.length_append]; exact Nat.le_trans hl (Nat.le_add_right _ _)) fun k => ?_
          rw [hk, List.map_append, List.mem_append]
          constructor
          · exact fun h => .inl h
          · rintro (h' | h')
            · exact h'
            · rw [List.mem_singleton.mp h', ← hk]; exact h
        · rw [decide_eq_false h, if_neg Bool.false_ne_true]
          have := ih (dn ++ [x]) (ks ++ [kf x]) (by rw [List.append_assoc]; exact e) (by rw [List.length_append, List.length_append]; exact Nat.add_le_add_right hl 1) fun k => by
            rw [List.mem_append, hk, List.map_append, List.mem_append]
            rfl
          rw [List.map_append (f := fun _ => v)] at this
          exact this
  exact key l [] [] rfl (Nat.le_refl _) fun k => Iff.rfl
end DL
/-! DL36: how long repr's text of nested rows of small numbers is. -/
namespace DL
open PySem PySem.Spec PyProof.Rows L2
def SB (s : Str) (n : Nat) : Prop := s.length ≤ n ∧ PyData.strOk s = true
theorem SB.mono {s : Str} {n m : Nat} (h : SB s n) (l : n ≤ m) : SB s m := ⟨Nat.le_trans h.1 l, h.2⟩
theorem SB.app {a b : Str} {n m : Nat} (h : SB a n) (g : SB b m) : SB (a ++ b) (n + m) := by
  constructor
  · have := h.1
    have := g.1
    rw [Str.length_append]
    omega
  · have h2 := h.2
    have g2 := g.2
    unfold PyData.strOk at h2 g2 ⊢
    rw [Str.cps_append, Array.all_append, h2, g2]
    rfl
theorem sb_sep : SB ((", " : String) : Str) 2 := ⟨by decide +kernel, by decide +kernel⟩
theorem sb_join {m : Nat} : ∀ {ts : List Str}, (∀ t ∈ ts, SB t m) → SB (Str.join ((", " : String) : Str) ts) (ts.length * (m + 2))
  | [], _ => ⟨Nat.zero_le _, by decide +kernel⟩
  | [x], h => (h x (by simp)).mono (by simp only [List.length_cons, List.length_nil]; omega)
  | x :: y :: r, h => by
    have ih := sb_join (ts := y :: r) fun t ht => h t (List.mem_cons_of_mem _ ht)
    have h1 := ((h x (by simp)).app sb_sep).app ih
    refine SB.mono (s := x ++ ((", " : String) : Str) ++ Str.join ((", " : String) : Str) (y :: r)) h1 ?_
    rw [List.length_cons (as := y :: r), Nat.add_mul]
    omega
theorem sb_tuple {m : Nat} {ts : List Str} (h : ∀ t ∈ ts, SB t m) : SB (tupleText ts) (ts.length * (m + 2) + 3) := by
  have e1 : SB ((("(" : String)) : Str) 1 := ⟨by decide +kernel, by decide +kernel⟩
  have e3 : SB ((if ts.length == 1 then ",)" else ")" : String) : Str) 2 := by
    split
    · exact ⟨by decide +kernel, by decide +kernel⟩
    · exact ⟨by decide +kernel, by decide +kernel⟩
  exact ((e1.app (sb_join h)).app e3).mono (by omega)
theorem sb_from {m : Nat} : ∀ {ts : List Str} {k n : Nat} {acc : Str}, (∀ t ∈ ts, SB t m) → SB acc n → SB (textFrom k acc ts) (n + ts.length * (m + 2))
  | [], _, _, _, _, ha => ha.mono (by omega)
  | x :: r, k, n, acc, h, ha => by
    have e : SB ((if k > 0 then ", " else "" : String) : Str) 2 := by
      split
      · exact sb_sep
      · exact ⟨by decide +kernel, by decide +kernel⟩
    have ih := sb_from (ts := r) (k := k + 1) (fun t ht => h t (List.mem_cons_of_mem _ ht)) ((ha.app e).app (h x (by simp)))
    refine SB.mono (s := textFrom (k + 1) (acc ++ ((if k > 0 then ", " else "" : String) : Str) ++ x) r) ih ?_
    rw [List.length_cons, Nat.add_mul]
    omega
theorem sb_list {m : Nat} {ts : List Str} (h : ∀ t ∈ ts, SB t m) : SB (listText ts) (ts.length * (m + 2) + 2) := by
  have e1 : SB ((("[" : String)) : Str) 1 := ⟨by decide +kernel, by decide +kernel⟩
  have e3 : SB ((("]" : String)) : Str) 1 := ⟨by decide +kernel, by decide +kernel⟩
  exact ((sb_from h e1).app e3).mono (by omega)
/-- repr covers d: its text has at most n signs, it is at most k deep -/
def ShD (d : D) (n k : Nat) : Prop := SB (toPy d).shown n ∧ (toPy d).showable = true ∧ (toPy d).canLay0 = true ∧ (toPy d).depth ≤ k
theorem ShD.mono {d : D} {n m k j : Nat} (h : ShD d n k) (l : n ≤ m) (e : k ≤ j) : ShD d m j := ⟨h.1.mono l, h.2.1, h.2.2.1, Nat.le_trans h.2.2.2 e⟩
theorem shD_int {i : Int} (h : 0 ≤ i ∧ i < 10) : ShD (.int i) 1 0 := by
  have : i = 0 ∨ i = 1 ∨ i = 2 ∨ i = 3 ∨ i = 4 ∨ i = 5 ∨ i = 6 ∨ i = 7 ∨ i = 8 ∨ i = 9 := by omega
  rcases this with rfl | rfl | rfl | rfl | rfl | rfl | rfl | rfl | rfl | rfl <;> exact ⟨⟨by decide +kernel, by decide +kernel⟩, by decide +kernel, by decide +kernel, by decide +kernel⟩
theorem shownAll_map (ds : List PyData) : PyData.shownAll ds = ds.map PyData.shown := by
  induction ds with
  | nil => rfl
  | cons d ds ih => rw [PyData.shownAll, ih]; rfl
theorem showableAll_iff {ds : List PyData} : PyData.showableAll ds = true ↔ ∀ d ∈ ds, d.showable = true := by
  induction ds with
  | nil => simp [PyData.showableAll]
  | cons d ds ih => rw [PyData.showableAll, Bool.and_eq_true, ih, List.forall_mem_cons]
theorem canLayAll0_iff {ds : List PyData} : PyData.canLayAll0 ds = true ↔ ∀ d ∈ ds, d.canLay0 = true := by
  induction ds with
  | nil => simp [PyData.canLayAll0]
  | cons d ds ih => rw [PyData.canLayAll0, Bool.and_eq_true, ih, List.forall_mem_cons]
theorem shD_all {ds : List D} {m k : Nat} (h : ∀ d ∈ ds, ShD d m k) : (∀ t ∈ PyData.shownAll (toPys ds), SB t m) ∧ (PyData.shownAll (toPys ds)).length = ds.length ∧ PyData.showableAll (toPys ds) = true ∧ PyData.canLayAll0 (toPys ds) = true := by
  rw [shownAll_map, toPys_map, showableAll_iff, canLayAll0_iff]
  refine ⟨fun t ht => ?_, by simp, fun p hp => ?_, fun p hp => ?_⟩
  · obtain ⟨p, hp, rfl⟩ := List.mem_map.mp ht
    obtain ⟨d, hd, rfl⟩ := List.mem_map.mp hp
    exact (h d hd).1
  · obtain ⟨d, hd, rfl⟩ := List.mem_map.mp hp
    exact (h d hd).2.1
  · obtain ⟨d, hd, rfl⟩ := List.mem_map.mp hp
    exact (h d hd).2.2.1
theorem depthAll_le {k : Nat} : ∀ {ds : List PyData}, (∀ d ∈ ds, d.depth ≤ k) → PyData.depthAll ds ≤ k
  | [], _ => by simp [PyData.depthAll]
  | d :: ds, h => by
    have h1 := h d (by simp)
    have h2 := depthAll_le (ds := ds) fun e he => h e (by simp [he])
    simp only [PyData.depthAll]
    omega
theorem shD_tup {ds : List D} {m k : Nat} (h : ∀ d ∈ ds, ShD d m k) : ShD (.tup ds) (ds.length * (m + 2) + 3) (k + 1) := by
  obtain ⟨h1, h2, h3, h4⟩ := shD_all h
  refine ⟨?_, ?_, ?_, ?_⟩
  · show SB (PyData.tuple (toPys ds)).shown _
    rw [PyData.shown, ← h2]
    exact sb_tuple h1
  · show PyData.showable (.tuple (toPys ds)) = true
    rw [PyData.showable]
    exact h3
  · show PyData.canLay0 (.tuple (toPys ds)) = true
    rw [PyData.canLay0]
    exact h4
  · show PyData.depth (.tuple (toPys ds)) ≤ _
    rw [PyData.depth]
    have : PyData.depthAll (toPys ds) ≤ k := depthAll_le fun p hp => by
      rw [toPys_map] at hp
      obtain ⟨d, hd, rfl⟩ := List.mem_map.mp hp
      exact (h d hd).2.2.2
    omega
theorem shD_lst {ds : List D} {m k : Nat} (h : ∀ d ∈ ds, ShD d m k) : ShD (.lst ds) (ds.length * (m + 2) + 2) (k + 1) := by
  obtain ⟨h1, h2, h3, h4⟩ := shD_all h
  refine ⟨?_, ?_, ?_, ?_⟩
  · show SB (PyData.list (toPys ds)).shown _
    rw [PyData.shown, ← h2]
    exact sb_list h1
  · show PyData.showable (.list (toPys ds)) = true
    rw [PyData.showable]
    exact h3
  · show PyData.canLay0 (.list (toPys ds)) = true
    rw [PyData.canLay0]
    exact h4
  · show PyData.depth (.list (toPys ds)) ≤ _
    rw [PyData.depth]
    have : PyData.depthAll (toPys ds) ≤ k := depthAll_le fun p hp => by
      rw [toPys_map] at hp
      obtain ⟨d, hd, rfl⟩ := List.mem_map.mp hp
      exact (h d hd).2.2.2
    omega
theorem ShD.okR {d : D} {n k : Nat} (h : ShD d n k) (hn : n ≤ sizeLine) (hk : k ≤ 60) : DL.okR d = true := by
  obtain ⟨⟨h1, _⟩, h2, h3, h4⟩ := h
  unfold DL.okR
  rw [h2, h3, PyData.hasDict_of_canLay _ h3, decide_eq_true (Nat.le_trans h4 hk), decide_eq_true (Nat.le_trans h1 hn)]
  rfl
theorem ShD.okS {d : D} {n k : Nat} (h : ShD d n k) : okD (.str (reprD d)) = true := okD_str (by rw [PyData.canLay0]; exact h.1.2)
/-- rows of small numbers -/
theorem shD_rows {rs : List (List Int)} {m : Nat} (h : ∀ r ∈ rs, r.length ≤ m ∧ ∀ x ∈ r, 0 ≤ x ∧ x < 10) : ShD (.tup (rs.map tupI)) (rs.length * (m * 3 + 5) + 3) 2 := by
  have := shD_tup (ds := rs.map tupI) (m := m * 3 + 3) (k := 1) fun d hd => by
    obtain ⟨r, hr, rfl⟩ := List.mem_map.mp hd
    have h1 := shD_tup (ds := r.map D.int) (m := 1) (k := 0) fun d hd => by
      obtain ⟨x, hx, rfl⟩ := List.mem_map.mp hd
      exact shD_int ((h r hr).2 x hx)
    rw [List.length_map] at h1
    have h2 := Nat.mul_le_mul_right 3 (h r hr).1
    exact h1.mono (by omega) (Nat.le_refl _)
  rw [List.length_map] at this
  exact this
end DL
/-! DL37: a class under another own class: fields, isinstance, != by an own __eq__. -/
namespace DL
open PySem PySem.Spec PyProof.Rows L2
/-- own __eq__ at f, no own __ne__ -/
structure EqCls (K : PySem.W.Frag) (C f : Addr) : Prop where
  ne : PySem.W.findIn K (.ref C) "__ne__" = some (some (.builtin "object.__ne__"))
  eq : PySem.W.findIn K (.ref C) "__eq__" = some (some (.ref f))
  fn : PySem.W.isFn K (.ref f) = true
  ob : PySem.W.mroIn K C (.type "object") = some true
section
variable {prog : Program} {w : World} {A : Around} {E : Value → Shared → Prop} {s : Shared} {K : PySem.W.Frag} {x y C L f : Addr} {h₀ : Heap} {m : Str → Option Value} {ox oy : Obj} {od od' : Option Obj}
theorem check_ne (X : K.In s.heap) (I : PySem.W.InstAt s.heap x ox C od) (c : EqCls K C f) {M : Model} {Q : Unit → Shared → Prop} {v : Value} (hq : Q () s) :
    wpAny M A (checkBuiltinCall "object.__ne__" ⟨[.ref x, v], []⟩) Q E s := by
  simp only [checkBuiltinCall, PySem.F.cmpKind_ne, PySem.F.cmpSplit_ne]
  refine wpAny_bind ?_
  unfold isInstance
  refine wpAny_bind (I.type.here ((PySem.W.looks_mroIn X c.ob).here ?_))
  rw [if_neg (by simp)]
  have ha := PySem.F.cmpArgs_ne (.ref x) v
  cases hsig : Manifest.signature? "object.__ne__" with
  | none => exact wpAny_pure hq
  | some sig =>
    simp only [argsOk, hsig] at ha
    have h2 : Bind.checkArgs "object.__ne__" sig ⟨[.ref x, v], []⟩ = pure () := ha
    show wpAny M A (Bind.checkArgs "object.__ne__" sig ⟨[.ref x, v], []⟩) Q E _
    rw [h2]
    exact wpAny_pure hq
theorem objNe_K (X : K.In s.heap) (I : PySem.W.InstAt s.heap x ox C od) (c : EqCls K C f) (hu : A.units < cLine) {Q : PySem.Fin → Shared → Prop}
    (h : wpAny (model prog w) A (call (.ref f) [.ref x, .ref y]) (fun v s' => ∃ b, v = .bool b ∧ Q (.done (.ret (.bool (!b)))) s') E s) :
    wpAny (model prog w) A (Builtin.«object.__ne__» ⟨[.ref x, .ref y], []⟩) Q E s := by
  unfold Builtin.«object.__ne__»
  repeat (first
    | with_reducible refine wpAny_cRoomFor hu ?_
    | (refine wpAny_bind (m := callSpecialIfBound? (.ref x) (Str.ofString "__eq__") [.ref y])
        (PySem.W.ifBound_K X I c.eq c.fn (wpAny_mono h (fun r s' hr => by
          obtain ⟨b, rfl, hq⟩ := hr
          repeat (first | exact hq | exact wpAny_pure hq | exact wpAny_truthy_bool hq | (refine wpAny_bind (m := truthy (.bool _)) (wpAny_truthy_bool ?_)) | wp_step)) fun _ _ e => e)))
    | wp_step)
theorem ne_K {Q : Value → Shared → Prop} (hu : A.units + 1 < cLine) (F : Fr h₀ L s.heap m) (X₀ : K.In h₀) (I : PySem.W.InstAt s.heap x ox C od) (J : PySem.W.InstAt s.heap y oy C od') (c : EqCls K C f)
    (h : wpAny (model prog w) A.in1 (call (.ref f) [.ref x, .ref y]) (fun v s' => ∃ b, v = .bool b ∧ Q (.bool (!b)) s') E s) : wpAny (model prog w) A (richCompare .NotEq (.ref x) (.ref y)) Q E s := by
  have X := X₀.keeps F.keep
  have one : wpAny (model prog w) A (tryCompare (.ref x) (cmpInfo .NotEq).2.1 (.ref y)) (fun r s' => ∃ v, r = some v ∧ Q v s') E s := by
    show wpAny (model prog w) A (tryCompare (.ref x) "__ne__" (.ref y)) (fun r s' => ∃ v, r = some v ∧ Q v s') E s
    unfold tryCompare
    refine wpAny_bind ?_
    simp only [callSpecialIfBound?, bindSpecialIfBound?]
    refine wpAny_holding (wpAny_bind (wpAny_bind (wpAny_bind (I.type.here ((PySem.W.looks_findIn X c.ne).here ?_)))))
    simp only [PySem.F.cmp_object.ne.bind]
    refine wpAny_bind (wpAny_askSetting (wpAny_ite ?_))
    have fin : wpAny (model prog w) A (call (.builtin "object.__ne__") ([.ref x] ++ [.ref y]) >>= fun v => pure (some v)) (fun v s' => wpAny (model prog w) A (match v with
        | some Value.notImplemented => pure none
        | none => pure none
        | some r => pure (some r)) (fun r s' => ∃ v, r = some v ∧ Q v s') E s') E s := by
      refine wpAny_bind (wpAny_call (codeAny_call_builtin PySem.F.cmp_object.ne.plain PySem.F.cmpEntry_ne (check_ne X I c (objNe_K (A := A.in1) X I c hu (wpAny_mono h (fun v s' hv => ?_) fun _ _ e => e)))))
      obtain ⟨b, rfl, hq⟩ := hv
      exact ⟨b, rfl, wpAny_pure (wpAny_pure ⟨_, rfl, hq⟩)⟩
    split
    · exact wpAny_bind (wpAny_pure (wpAny_pure (by exact fin)))
    · exact wpAny_tryCatch (wpAny_bind (wpAny_pure (wpAny_pure (by exact fin))))
  unfold richCompare
  simp only [oneThing_ref]
  refine wpAny_holding (wpAny_bind (wpAny_cRoomFor (by omega) ?_))
  refine wpAny_bind (I.type.here (wpAny_bind (J.type.here ?_)))
  rw [if_neg (by simp)]
  refine wpAny_bind (wpAny_pure ?_)
  simp only [Bool.false_eq_true, if_false]
  refine wpAny_bind (wpAny_mono one (fun r s' z => ?_) fun _ _ e => e)
  obtain ⟨v, rfl, hq⟩ := z
  exact wpAny_pure hq
end
section
variable {X : Cx} {CX : CXT} {k : Nat} {C f : Addr} {fd : FuncData} {ps : List Str} {sp : Sp} {E : XK}
/-- x != y, both instances of the class at C -/
def rNeO (C : Addr) (sp : Sp) (E : XK) : R2 := fun x y H Q => ∃ a b dx dy fs gs, x = .ref a ∧ y = .ref b ∧ H a = some (.ins C dx fs) ∧ H b = some (.ins C dy gs) ∧ sp [x, y] H (fun v H' => ∃ r, v = .bl r ∧ Q (.bl (!r)) H') E
theorem op_neO (c : EqCls X.K C f) (F : FnG X.prog X.w X.K X.mg X.base CX k f fd ps sp) (hr : RoomG (k + 1) X.A) (hb : Binds X.K fd ps []) (hx : Passes CX X E) : OpR X (compareOp .NotEq) (rNeO C sp E) := by
  intro pins s σ H x y v u Q I rx ry h
  obtain ⟨a, b, dx, dy, fs, gs, rfl, rfl, ha, hb', q⟩ := h
  cases (show v = Value.ref a from rx)
  cases (show u = Value.ref b from ry)
  obtain ⟨mA, J, _⟩ := ins_get I.hok ha
  obtain ⟨mB, J', _⟩ := ins_get I.hok hb'
  obtain ⟨od, J, _⟩ := J.look
  obtain ⟨od', J', _⟩ := J'.look
  obtain ⟨m, hF⟩ := I.fr
  show wpAny (model X.prog X.w) X.A (richCompare .NotEq (.ref a) (.ref b)) (EP X pins σ Q) X.xe s
  refine ne_K (by have := hr.r.un; omega) hF I.ok.mod.kin J J' c ?_
  have hl := F.len _ _ _ _ q
  have r2 : Vals [V.ref a, V.ref b] [Value.ref a, Value.ref b] := .cons rfl (.cons rfl .nil)
  refine wpAny_call (codeAny_mono (F.run X.A.in1 X.stack s H ⟨[.ref a, .ref b], []⟩ [.ref a, .ref b] [.ref a, .ref b] _ E hr.r.in1 hr.g I.env0.in1 (by
    have := hb s [.ref a, .ref b] I.kIn (by simpa using hl)
    simpa using this) r2 q) fun r s' hq => ?_)
  cases r with
  | error e => exact hx pins σ H s e s' I hq
  | ok fl =>
    cases fl with
    | ret w =>
      obtain ⟨z, H', I', rz, r, ez, qz⟩ := I.after hq
      subst ez
      cases rz
      exact ⟨r, rfl, .bl _, H', I', rfl, qz⟩
    | next => exact False.elim hq
    | brk => exact False.elim hq
    | cont => exact False.elim hq
end
section
variable {X : Cx} {CX : CXT} {k : Nat} {C C' f : Addr} {fd : FuncData} {ps : List Str} {sp : Sp} {E : XK}
/-- x == y, both instances: x of the class at C, y of one at C' that is not below C -/
def rEqO (C C' : Addr) (sp : Sp) (E : XK) : R2 := fun x y H Q => ∃ a b dx dy fs gs, x = .ref a ∧ y = .ref b ∧ H a = some (.ins C dx fs) ∧ H b = some (.ins C' dy gs) ∧ sp [x, y] H (fun v H' => ∃ r, v = .bl r ∧ Q (.bl r) H') E
theorem op_eqO (hs : PySem.W.findIn X.K (.ref C) "__eq__" = some (some (.ref f))) (hf : PySem.W.isFn X.K (.ref f) = true) (hn : PySem.W.notFirst X.K C (.ref C') = true) (F : FnG X.prog X.w X.K X.mg X.base CX k f fd ps sp) (hr : RoomG k X.A) (hb : Binds X.K fd ps []) (hx : Passes CX X E) : OpR X (compareOp .Eq) (rEqO C C' sp E) := by
  intro pins s σ H x y v u Q I rx ry h
  obtain ⟨a, b, dx, dy, fs, gs, rfl, rfl, ha, hb', q⟩ := h
  cases (show v = Value.ref a from rx)
  cases (show u = Value.ref b from ry)
  obtain ⟨mA, J, _⟩ := ins_get I.hok ha
  obtain ⟨mB, J', _⟩ := ins_get I.hok hb'
  obtain ⟨od, J, _⟩ := J.look
  obtain ⟨od', J', _⟩ := J'.look
  obtain ⟨m, hF⟩ := I.fr
  show wpAny (model X.prog X.w) X.A (richCompare .Eq (.ref a) (.ref b)) (EP X pins σ Q) X.xe s
  refine PySem.W.cmp_K (op := .Eq) (tb := .ref C') hr.r.units0 hF I.ok.mod.kin J J'.type hn hs hf ?_
  have r2 : Vals [V.ref a, V.ref b] [Value.ref a, Value.ref b] := .cons rfl (.cons rfl .nil)
  refine wpAny_mono (run_fnG (us := [.ref a, .ref b]) (vs := [.ref a, .ref b]) (dvs := []) (ds := []) F hr.r hr.g hb .nil hx I r2 q) (fun w s' z => ?_) fun _ _ x => x
  obtain ⟨z', H', I', rz, r, ez, qz⟩ := z
  subst ez
  cases rz
  exact ⟨.bl _, H', I', rfl, qz⟩
end
/-! ### readings -/
/-- a row of own classes: what each must have -/
def ClsF (K : PySem.W.Frag) (Cs : List Str) (f : Str) : Prop := ∀ C ∈ Cs, Cls K (He.ga K C) ∧ NoAttr K (He.ga K C) f
structure Own (K : PySem.W.Frag) (C : Addr) : Prop where
  cl : Cls K C
  ha : PySem.W.findIn K (.ref C) "__class__" = some (some (.builtin "object.__class__"))
  hn : PySem.W.specialIn K (.builtin "object.__class__") "__get__" = some (some (.builtin "getset_descriptor.__get__"))
  htk : PySem.W.takesIn K (.builtin "object.__class__") = some true
  hm : PySem.W.mroIn K C (.type "object") = some true
section
variable {X : Cx} {L : Lk} {K : PySem.W.Frag} {a b e o : Expr} {ta tb te to : TE} {wa wb wo : DL.WE} {CX : CXT} {k : Nat} {f : Addr} {ps : List Str} {p pos : Pos} {sp : DSp} {E0 : XK}
def wFldS (Cs : List Str) (f : Str) (wa : DL.WE) : DL.WE := fun ρ S Q => wa ρ S fun x ρ1 S1 => ∃ C ns ds d, rd S1 x = .obj C ns ds ∧ C ∈ Cs ∧ fldD f ns ds = some d ∧ Q d ρ1 S1
theorem re_fldS {Cs : List Str} {f : Str} (c : ClsF K Cs f) (h : RE K L ta wa) : RE K L (tFld K ta f) (wFldS Cs f wa) := by
  intro F ρ S σ H Q R m q k
  refine h F ρ S σ H _ _ m q fun x H1 dx ρ1 S1 F1 e1 m1 r1 ⟨C, ns, ds, d, hx, hC, hd, q1⟩ => ?_
  have rt := rd_ok m1.fs r1
  rw [hx] at rt
  obtain ⟨a, da, fs, rfl, h1, h2, h3⟩ := rt
  subst h2
  obtain ⟨v, hv, rv⟩ := reps_fld h3 hd
  exact ⟨a, _, da, fs, v, rfl, h1, (c C hC).1, (c C hC).2, hv, k v H1 d ρ1 S1 F1 e1 m1 rv q1⟩
theorem de_fldS (K : PySem.W.Frag) {Cs : List Str} {f : Str} (c : ClsF K Cs f) (h : DE X L e ta wa) (hb : attributeBase e f X.env (eval e X.env) = eval e X.env := by rfl) (hK : X.K = K := by rfl) :
    DE X L (.Attribute e f pos) (tFld K ta f) (wFldS Cs f wa) := by
  subst hK
  exact ⟨pe_fld h.pe hb, re_fldS c h.re⟩
/-! methods that several classes have from one -/
def wMethS (Cs : List Str) (m : Str) (sp : DSp) (wo : DL.WE) (wr : WA) : DL.WE := fun ρ S Q => wo ρ S fun x ρ1 S1 => (∃ C ns ds, rd S1 x = .obj C ns ds ∧ C ∈ Cs ∧ m ∉ ns) ∧ wr ρ1 S1 fun xs ρ2 S2 => sp (x :: xs) S2 (fun d S3 => Q d ρ2 S3) noX
def tMethS (K : PySem.W.Frag) (m : Str) (f : Addr) (sp : Sp) (E : XK) (ta : TE) (t : TA) : TE := fun σ H Q => ta σ H fun x H1 => ∃ a C dx fs, x = .ref a ∧ H1 a = some (.ins C dx fs) ∧ Cls K C ∧ Meth K C m f ∧ fs.lookup m = none ∧ t σ H1 fun vs H2 => sp (x :: vs) H2 Q E
theorem pe_methS {pl : Sem Bool} {m : Str} {apos : Pos} {fd : FuncData} {s1 : Sp} {es : List Expr} {t : TA} (he : PE X o ta) (F : FnG X.prog X.w X.K X.mg X.base CX k f fd ps s1) (hr : Room k X.A) (hG : X.A.guards = some []) (hb : Binds X.K fd ps []) (hx : Passes CX X E0) (ha : PA X (e :: es) t)
    (hst : starEach (e :: es) X.env = (false, eval e X.env) :: starEach es X.env := by rfl) (hpl : (backTo pos (starEach es X.env)).any (·.1) = false := by rfl)
    (ht : eval (.Call (.Attribute o m apos) (e :: es) [] pos) X.env = (do
      let ov ← eval o X.env
      standAt apos.atName
      let (f, first) ← holding [ov] (getMethod ov m pl)
      callWith pos f first (backTo pos (starEach (e :: es) X.env)) (backToKw pos (keywordEach [] X.env))) := by rfl) :
    PE X (.Call (.Attribute o m apos) (e :: es) [] pos) (tMethS X.K m f s1 E0 ta t) := by
  refine ⟨fun pins s σ H Q I h => ?_⟩
  refine PySem.W.methodCall_KW (pl := pl) (thn (he.run pins s σ H _ I h) fun u s1 ⟨x, H1, I1, rx, a, C, dx, fs, ex, ea, c, hm, l, q⟩ => ?_) ht
  subst ex
  obtain rfl : u = Value.ref a := rx
  refine getmeth_ok I1 ea c hm l ?_
  refine PySem.W.callWith_K (first := [.ref a]) (h₀ := X.base) I.ok.mod.kin hm.kp (thn (ha.run pos pins s1 σ H1 _ I1 q) fun us s2 ⟨vs, H2, I2, r, q2⟩ => ⟨I2.kIn, ?_⟩) hst hpl
  exact run_fnG (us := .ref a :: us) (vs := .ref a :: vs) (dvs := []) (ds := []) F hr hG hb .nil hx I2 (.cons rfl r) (by rw [List.append_nil]; exact q2)
theorem pe_methS0 {pl : Sem Bool} {m : Str} {apos : Pos} {fd : FuncData} {s1 : Sp} (he : PE X o ta) (F : FnG X.prog X.w X.K X.mg X.base CX k f fd ps s1) (hr : Room k X.A) (hG : X.A.guards = some []) (hb : Binds X.K fd ps []) (hx : Passes CX X E0)
    (ht : eval (.Call (.Attribute o m apos) [] [] pos) X.env = (do
      let ov ← eval o X.env
      standAt apos.atName
      let (f, first) ← holding [ov] (getMethod ov m pl)
      callWith pos f first (backTo pos (starEach [] X.env)) (backToKw pos (keywordEach [] X.env))) := by rfl) :
    PE X (.Call (.Attribute o m apos) [] [] pos) (tMethS X.K m f s1 E0 ta tNil) := by
  refine ⟨fun pins s σ H Q I h => ?_⟩
  refine PySem.W.methodCall_KW (pl := pl) (thn (he.run pins s σ H _ I h) fun u s1 ⟨x, H1, I1, rx, a, C, dx, fs, ex, ea, c, hm, l, q⟩ => ?_) ht
  subst ex
  obtain rfl : u = Value.ref a := rx
  refine getmeth_ok I1 ea c hm l ?_
  exact PySem.W.callWith_K0 (first := [.ref a]) I1.kIn hm.kp (run_fnG (us := [.ref a]) (vs := [.ref a]) (dvs := []) (ds := []) F hr hG hb .nil hx I1 (.cons rfl .nil) q)
/-- each of a row of own classes has the method at f -/
def MethF (K : PySem.W.Frag) (Cs : List Str) (m : Str) (f : Addr) : Prop := ∀ C ∈ Cs, Cls K (He.ga K C) ∧ Meth K (He.ga K C) m f
theorem re_methS {Cs : List Str} {m : Str} {t : TA} {wr : WA} (c : MethF K Cs m f) (ho : RE K L to wo) (hr : RA K L t wr) : RE K L (tMethS K m f (spD K sp) E0 to t) (wMethS Cs m sp wo wr) := by
  intro F ρ S σ H Q R mt q kk
  refine ho F ρ S σ H _ _ mt q fun x H1 dx ρ1 S1 F1 e1 m1 r1 ⟨⟨C, ns, ds, hx, hC, hn⟩, q1⟩ => ?_
  have rt := rd_ok m1.fs r1
  rw [hx] at rt
  obtain ⟨a, da, fs, rfl, h1, h2, h3⟩ := rt
  subst h2
  refine ⟨a, _, da, fs, rfl, h1, (c C hC).1, (c C hC).2, reps_nofld hn, ?_⟩
  refine hr F1 ρ1 S1 σ H1 _ _ m1 q1 fun vs H2 xs ρ2 S2 F2 e2 m2 r2 q2 => ?_
  exact ⟨_, F2, S2, _, _, m2.fs, .cons (r1.up e2) r2, q2, fun v H' d F' S' e x r q => kk v H' d ρ2 S' F' ((e1.trans e2).trans e) (m2.step e x) r q, fun _ _ _ _ _ _ _ _ _ _ z => z.elim⟩
theorem de_methS0 {Cs : List Str} {m : Str} {apos : Pos} {pl : Sem Bool} (c : MethF K Cs m f) (D : DefM X.prog X.w K X.mg X.base CX k f ps sp) (hr : RoomG k X.A) (hx : Passes CX X E0) (ho : DE X L o to wo)
    (ht : eval (.Call (.Attribute o m apos) [] [] pos) X.env = (do
      let ov ← eval o X.env
      standAt apos.atName
      let (f, first) ← holding [ov] (getMethod ov m pl)
      callWith pos f first (backTo pos (starEach [] X.env)) (backToKw pos (keywordEach [] X.env))) := by rfl) (hK : X.K = K := by rfl) :
    DE X L (.Call (.Attribute o m apos) [] [] pos) (tMethS K m f (spD K sp) E0 to tNil) (wMethS Cs m sp wo wNil) := by
  subst hK
  obtain ⟨fd, F, hb⟩ := D.ex
  exact ⟨pe_methS0 ho.pe F hr.r hr.g hb hx ht, re_methS c ho.re ra_nil⟩
/-! a != b, a == b by own __eq__ -/
def wOpO (neg : Bool) (C C' : Str) (sp : DSp) (wa wb : DL.WE) : DL.WE := fun ρ S Q => wa ρ S fun x ρ1 S1 => wb ρ1 S1 fun y ρ2 S2 => (∃ ns ds, rd S2 x = .obj C ns ds) ∧ (∃ ns ds, rd S2 y = .obj C' ns ds) ∧ sp [x, y] S2 (fun v S3 => ∃ r, v = .bl r ∧ Q (.bl (if neg = true then !r else r)) ρ2 S3) noX
theorem re_neO {C : Str} (ha : RE K L ta wa) (hb : RE K L tb wb) : RE K L (tOp (rNeO (He.ga K C) (spD K sp) E0) ta tb) (wOpO true C C sp wa wb) := by
  intro F ρ S σ H Q R m q kk
  refine ha F ρ S σ H _ _ m q fun x H1 dx ρ1 S1 F1 e1 m1 r1 q1 => ?_
  refine hb F1 ρ1 S1 σ H1 _ _ m1 q1 fun y H2 dy ρ2 S2 F2 e2 m2 r2 ⟨⟨ns, ds, hx⟩, ⟨ms, es, hy⟩, q2⟩ => ?_
  have rx := rd_ok m2.fs (r1.up e2)
  have ry := rd_ok m2.fs r2
  rw [hx] at rx
  rw [hy] at ry
  obtain ⟨a, da, gs, rfl, h1, _, _⟩ := rx
  obtain ⟨b, db, hs, rfl, g1, _, _⟩ := ry
  refine ⟨a, b, da, db, gs, hs, rfl, rfl, h1, g1, _, F2, S2, _, _, m2.fs, .cons (r1.up e2) (.cons r2 .nil), q2, ?_, fun _ _ _ _ _ _ _ _ _ _ z => z.elim⟩
  rintro v H' d F' S' e3 x3 r3 ⟨r, rfl, q3⟩
  cases r3
  exact ⟨r, rfl, kk _ H' _ ρ2 S' F' ((e1.trans e2).trans e3) (m2.step e3 x3) (.bl _) q3⟩
theorem re_eqO {C C' : Str} (ha : RE K L ta wa) (hb : RE K L tb wb) : RE K L (tOp (rEqO (He.ga K C) (He.ga K C') (spD K sp) E0) ta tb) (wOpO false C C' sp wa wb) := by
  intro F ρ S σ H Q R m q kk
  refine ha F ρ S σ H _ _ m q fun x H1 dx ρ1 S1 F1 e1 m1 r1 q1 => ?_
  refine hb F1 ρ1 S1 σ H1 _ _ m1 q1 fun y H2 dy ρ2 S2 F2 e2 m2 r2 ⟨⟨ns, ds, hx⟩, ⟨ms, es, hy⟩, q2⟩ => ?_
  have rx := rd_ok m2.fs (r1.up e2)
  have ry := rd_ok m2.fs r2
  rw [hx] at rx
  rw [hy] at ry
  obtain ⟨a, da, gs, rfl, h1, _, _⟩ := rx
  obtain ⟨b, db, hs, rfl, g1, _, _⟩ := ry
  refine ⟨a, b, da, db, gs, hs, rfl, rfl, h1, g1, _, F2, S2, _, _, m2.fs, .cons (r1.up e2) (.cons r2 .nil), q2, ?_, fun _ _ _ _ _ _ _ _ _ _ z => z.elim⟩
  rintro v H' d F' S' e3 x3 r3 ⟨r, rfl, q3⟩
  cases r3
  exact ⟨r, rfl, kk _ H' _ ρ2 S' F' ((e1.trans e2).trans e3) (m2.step e3 x3) (.bl _) q3⟩
theorem de_neO {C : Str} (c : EqCls K (He.ga K C) f) (D : DefM X.prog X.w K X.mg X.base CX k f ps sp) (hr : RoomG (k + 1) X.A) (hx : Passes CX X E0) (ha : DE X L a ta wa) (hb : DE X L b tb wb) (hm : behindInMarks .NotEq b = false) (hK : X.K = K := by rfl) :
    DE X L (.Compare a [.NotEq] [b] pos) (tOp (rNeO (He.ga K C) (spD K sp) E0) ta tb) (wOpO true C C sp wa wb) := by
  subst hK
  obtain ⟨fd, F, hbb⟩ := D.ex
  exact ⟨pe_cmpR (op_neO c F hr hbb hx) ha.pe hb.pe hm, re_neO ha.re hb.re⟩
theorem dt_neO {C : Str} (c : EqCls K (He.ga K C) f) (D : DefM X.prog X.w K X.mg X.base CX k f ps sp) (hr : RoomG (k + 1) X.A) (hx : Passes CX X E0) (ha : DE X L a ta wa) (hb : DE X L b tb wb) (hm : behindInMarks .NotEq b = false) (hK : X.K = K := by rfl) :
    DT X L (.Compare a [.NotEq] [b] pos) (tTest (tOp (rNeO (He.ga K C) (spD K sp) E0) ta tb)) (wTe (wOpO true C C sp wa wb)) := by
  subst hK
  obtain ⟨fd, F, hbb⟩ := D.ex
  exact ⟨pt_cmpR (op_neO c F hr hbb hx) ha.pe hb.pe hm, rt_test (re_neO ha.re hb.re)⟩
theorem de_eqO {C C' : Str} (c : EqCls K (He.ga K C) f) (hn : PySem.W.notFirst K (He.ga K C) (.ref (He.ga K C')) = true) (D : DefM X.prog X.w K X.mg X.base CX k f ps sp) (hr : RoomG k X.A) (hx : Passes CX X E0) (ha : DE X L a ta wa) (hb : DE X L b tb wb) (hm : behindInMarks .Eq b = false) (hK : X.K = K := by rfl) :
    DE X L (.Compare a [.Eq] [b] pos) (tOp (rEqO (He.ga K C) (He.ga K C') (spD K sp) E0) ta tb) (wOpO false C C' sp wa wb) := by
  subst hK
  obtain ⟨fd, F, hbb⟩ := D.ex
  exact ⟨pe_cmpR (op_eqO c.eq c.fn hn F hr hbb hx) ha.pe hb.pe hm, re_eqO ha.re hb.re⟩
theorem dt_eqO {C C' : Str} (c : EqCls K (He.ga K C) f) (hn : PySem.W.notFirst K (He.ga K C) (.ref (He.ga K C')) = true) (D : DefM X.prog X.w K X.mg X.base CX k f ps sp) (hr : RoomG k X.A) (hx : Passes CX X E0) (ha : DE X L a ta wa) (hb : DE X L b tb wb) (hm : behindInMarks .Eq b = false) (hK : X.K = K := by rfl) :
    DT X L (.Compare a [.Eq] [b] pos) (tTest (tOp (rEqO (He.ga K C) (He.ga K C') (spD K sp) E0) ta tb)) (wTe (wOpO false C C' sp wa wb)) := by
  subst hK
  obtain ⟨fd, F, hbb⟩ := D.ex
  exact ⟨pt_cmpR (op_eqO c.eq c.fn hn F hr hbb hx) ha.pe hb.pe hm, rt_test (re_eqO ha.re hb.re)⟩
/-! isinstance(x, an own class), x an instance of one of Cs, all of them below it -/
def wIsO (Cs : List Str) (wa : DL.WE) : DL.WE := fun ρ S Q => wa ρ S fun x ρ1 S1 => (∃ C ns ds, rd S1 x = .obj C ns ds ∧ C ∈ Cs) ∧ Q (.bl true) ρ1 S1
def IsaF (K : PySem.W.Frag) (Cs : List Str) (B : Addr) : Prop := ∀ C ∈ Cs, Own K (He.ga K C) ∧ PySem.W.kitOne K (.ref (He.ga K C)) (.ref B) = some true
theorem re_isO {Cs : List Str} {B : Addr} (c : IsaF K Cs B) (h : RE K L ta wa) : RE K L (tCB (rIsi K) (tCons ta (tCons (tC (.ref B)) tNil))) (wIsO Cs wa) := by
  intro F ρ S σ H Q R m q k
  refine h F ρ S σ H _ _ m q fun x H1 dx ρ1 S1 F1 e1 m1 r1 ⟨⟨C, ns, ds, hx, hC⟩, q1⟩ => ?_
  have rt := rd_ok m1.fs r1
  rw [hx] at rt
  obtain ⟨a, da, fs, rfl, h1, _, _⟩ := rt
  obtain ⟨o, ho⟩ := c C hC
  exact ⟨.ref a, .ref B, .ref (He.ga K C), .ref B, true, rfl, .own B, .base (.ins h1 o.cl o.ha o.hn o.htk o.hm), ho, k _ H1 _ ρ1 S1 F1 e1 m1 (.bl _) q1⟩
theorem de_isO (K : PySem.W.Frag) {Cs : List Str} {x : Str} {q1 : Pos} (c : IsaF K Cs (He.ga K x)) (hg : Gl X "isinstance") (hm : X.mg "isinstance" = none) (h : DE X L a ta wa) (hmx : X.mg x = some (.ref (He.ga K x))) (hgx : Gl X x := by rfl) (hdb : (x == ("__debug__" : Str)) = false := by decide)
    (he : starEach [a, .Name x q1] X.env = (false, eval a X.env) :: starEach [.Name x q1] X.env := by rfl) (he2 : starEach [.Name x q1] X.env = (false, eval (.Name x q1) X.env) :: starEach [] X.env := by rfl) (hpl : (backTo pos (starEach [.Name x q1] X.env)).any (·.1) = false := by rfl) (hK : X.K = K := by rfl) :
    DE X L (.Call (.Name "isinstance" p) [a, .Name x q1] [] pos) (tCB (rIsi K) (tCons ta (tCons (tC (.ref (He.ga K x))) tNil))) (wIsO Cs wa) := by
  subst hK
  exact ⟨pe_callB call_isi hg hm (by decide +kernel) (pa_cons h.pe (pa_cons (pe_glob hgx hmx rfl hdb) pa_nil he2) he) (by decide) (by decide) he hpl, re_isO c h.re⟩
end
/-! ### what of this the top must leave -/
inductive Fx where
  | own (x : Str)
  | isa (x y : Str)
  | eqc (x y : Str)
  | nfi (x y : Str)
  | met (x y m : Str)
def eqOO (a b : Option (Option Value)) : Bool := decide (a = b)
def Fx.ok (K : PySem.W.Frag) : Fx → Bool
  | .own x => decide (PySem.W.findIn K (.ref (He.ga K x)) "__class__" = some (some (.builtin "object.__class__"))) && (decide (PySem.W.specialIn K (.builtin "object.__class__") "__get__" = some (some (.builtin "getset_descriptor.__get__"))) && (decide (PySem.W.takesIn K (.builtin "object.__class__") = some true) && decide (PySem.W.mroIn K (He.ga K x) (.type "object") = some true)))
  | .isa x y => decide (PySem.W.kitOne K (.ref (He.ga K x)) (.ref (He.ga K y)) = some true)
  | .met x y m => decide (PySem.W.findIn K (.ref (He.ga K x)) m = some (some (.ref (He.ma K (He.ga K y) m)))) && (PySem.W.isFn K (.ref (He.ma K (He.ga K y) m)) && PySem.W.keepIn K (.ref (He.ma K (He.ga K y) m)))
  | .eqc x y => decide (PySem.W.findIn K (.ref (He.ga K x)) "__ne__" = some (some (.builtin "object.__ne__"))) && (decide (PySem.W.findIn K (.ref (He.ga K x)) "__eq__" = some (some (.ref (He.ma K (He.ga K y) "__eq__")))) && (PySem.W.isFn K (.ref (He.ma K (He.ga K y) "__eq__")) && decide (PySem.W.mroIn K (He.ga K x) (.type "object") = some true)))
  | .nfi x y => PySem.W.notFirst K (He.ga K x) (.ref (He.ga K y))
section
variable {K : PySem.W.Frag}
theorem fx_own {x : Str} (h : (Fx.own x).ok K = true) (c : Cls K (He.ga K x)) : Own K (He.ga K x) := by
  obtain ⟨h1, h⟩ := He.ba h
  obtain ⟨h2, h⟩ := He.ba h
  obtain ⟨h3, h4⟩ := He.ba h
  exact ⟨c, of_decide_eq_true h1, of_decide_eq_true h2, of_decide_eq_true h3, of_decide_eq_true h4⟩
theorem fx_isa {x y : Str} (h : (Fx.isa x y).ok K = true) : PySem.W.kitOne K (.ref (He.ga K x)) (.ref (He.ga K y)) = some true := of_decide_eq_true h
theorem fx_met {x y m : Str} (h : (Fx.met x y m).ok K = true) : Meth K (He.ga K x) m (He.ma K (He.ga K y) m) := by
  obtain ⟨h1, h⟩ := He.ba h
  obtain ⟨h2, h3⟩ := He.ba h
  exact ⟨of_decide_eq_true h1, h2, h3⟩
theorem fx_eqc {x y : Str} (h : (Fx.eqc x y).ok K = true) : EqCls K (He.ga K x) (He.ma K (He.ga K y) "__eq__") := by
  obtain ⟨h1, h⟩ := He.ba h
  obtain ⟨h2, h⟩ := He.ba h
  obtain ⟨h3, h4⟩ := He.ba h
  exact ⟨of_decide_eq_true h1, of_decide_eq_true h2, h3, of_decide_eq_true h4⟩
theorem fx_nfi {x y : Str} (h : (Fx.nfi x y).ok K = true) : PySem.W.notFirst K (He.ga K x) (.ref (He.ga K y)) = true := h
end
def obsX (n : Nat) (fa : List He.Fa) (fn : List He.DefD) (fx : List Fx) (g : Addr → Option Obj) : Bool × He.AlD := (fx.all fun f => f.ok (frN g (He.asD g n)), obsN n fa fn g)
/-- what the top leaves, with these checks -/
def hookX (n : Nat) (fa : List He.Fa) (fn : List He.DefD) (fx : List Fx) : PySem.W.Hook where
  α := Bool × He.AlD
  obs := fun s => obsX n fa fn fx s.heap.get?
  val := fun _ => (true, He.valD fn)
  says := fun _ h => ∃ K : PySem.W.Frag, K.In h ∧ (He.SaysD fa fn K ∧ (fx.all fun f => f.ok K) = true) ∧ NoL K
  of := fun _ _ e => ⟨_, fun b o h => (frN_in h).1, ⟨congrArg Prod.snd e, congrArg Prod.fst e⟩, fun b o h => (frN_in h).2⟩
  keeps := fun _ _ _ ⟨K, hK, c⟩ k => ⟨K, PySem.W.Frag.In.keeps hK k, c⟩
theorem obsX_eq {n : Nat} {fa : List He.Fa} {fn : List He.DefD} {fx : List Fx} {g : Addr → Option Obj} {s : Shared} (h : ∀ a, g a = s.heap.get? a) : obsX n fa fn fx g = (hookX n fa fn fx).obs s := by
  have e : g = s.heap.get? := funext h
  rw [e] <;> rfl
theorem fx_at {fx : List Fx} {K : PySem.W.Frag} (h : (fx.all fun f => f.ok K) = true) (i : Nat) {f : Fx} (hi : fx[i]? = some f := by rfl) : f.ok K = true := List.all_eq_true.mp h f (List.mem_of_getElem? hi)
theorem walk_lawX {l : PySem.W.OpenLaw} {n m k : Nat} {q : Program} {loose : List Str} {XP : (Str → Option Value) → Heap → Prop} {d : DefRec} {fa : List He.Fa} {fn : List He.DefD} {fx : List Fx} {sp : DSp} (hn : l.most = some n) (hn2 : n ≤ sizeLine) (hdf : d.params.defaults = []) (hr : Room k callerA) (hd : d.name = ("law" : Str))
    (hsp : ∀ ds S Q E, lawSp n ds S Q E → sp ds S Q E)
    (D : ∀ (w : World) (K : PySem.W.Frag) (mg : Str → Option Value) (h : Heap), K.In h → h.Ns mainGlobals mg → He.SaysD fa fn K → (fx.all fun f => f.ok K) = true → ∃ f fd, mg "law" = some (.ref f) ∧ (∀ (s : Shared) (u : Value), BindsTo s fd ⟨[u], []⟩ [("script", u)]) ∧ ∀ base : Heap, FnG l.prog w K mg base CX0 k f fd ["script"] (spD K sp)) :
    PySem.W.WalkO q loose XP (hookX m fa fn fx).says l.row.toRowW d [] (fun f vs => PySem.call f vs) := by
  refine walk_ofG (n := n) (k := k) (x := "script") (CX := L2.CX0) hn hn2 hdf hr ?_ (fun _ _ _ _ z => z)
  intro w mg fa' h Y G hmg
  obtain ⟨K, KX, ⟨c, c2⟩, nl⟩ := Y
  rw [hd] at hmg
  obtain ⟨f, fd, hm, hb, hF⟩ := D w K mg h KX G c c2
  rw [hm] at hmg
  cases hmg
  exact ⟨K, fd, spD K sp, KX, hb, fun H a ns hl _ hS => law_sp hsp nl hl hS, fun base _ _ => hF base⟩
end DL
/-! DL38: triples that are ordered; total orders; the least of a set. -/
namespace DL
open PySem PySem.Spec PyProof.Rows L2
def ltP {α β : Type} [DecidableEq α] (lt : α → α → Bool) (lu : β → β → Bool) (p q : α × β) : Bool := if p.1 = q.1 then lu p.2 q.2 else lt p.1 q.1
/-- triples of three kinds -/
theorem EnO.triple {α β γ : Type} [DecidableEq α] [DecidableEq β] {f : α → D} {g : β → D} {h : γ → D} {lt : α → α → Bool} {lu : β → β → Bool} {lv : γ → γ → Bool} {n m k : Nat} (o : EnO f lt n) (u : EnO g lu m) (v : EnO h lv k) (hl : ∀ b, lv b b = false) :
    EnO (fun p : α × β × γ => .tup [f p.1, g p.2.1, h p.2.2]) (ltP lt (ltP lu lv)) (max n (max m k) + 1) where
  al p q := by
    show PySem.W.alike (.tuple [_, _, _]) (.tuple [_, _, _]) = true
    simp only [PySem.W.alike, PySem.W.alikeAll, o.al, u.al, v.al, Bool.and_self]
  nn a := fun e => by cases e
  lt p q := by
    refine (PySem.W.dataLt_tuple _ _).trans ?_
    show PyProof.Rows.lexLt itemOrd (PySem.W.keyToksAll [toPy (f p.1), toPy (g p.2.1), toPy (h p.2.2)]) (PySem.W.keyToksAll [toPy (f q.1), toPy (g q.2.1), toPy (h q.2.2)]) = _
    unfold ltP
    by_cases h1 : p.1 = q.1
    · rw [if_pos h1, PySem.W.dataLt_all_yes (o.al p.1 q.1) ((o.eq _ _).mpr h1)]
      by_cases h2 : p.2.1 = q.2.1
      · rw [if_pos h2, PySem.W.dataLt_all_yes (u.al p.2.1 q.2.1) ((u.eq _ _).mpr h2)]
        by_cases h3 : eqD (h p.2.2) (h q.2.2) = true
        · rw [PySem.W.dataLt_all_yes (v.al p.2.2 q.2.2) h3, lex_irrefl, (v.eq _ _).mp h3]
          exact (hl _).symm
        · rw [PySem.W.dataLt_all_no (v.al p.2.2 q.2.2) (Bool.eq_false_iff.mpr h3)]
          exact v.lt p.2.2 q.2.2
      · rw [if_neg h2, PySem.W.dataLt_all_no (u.al p.2.1 q.2.1) (Bool.eq_false_iff.mpr fun e => h2 ((u.eq _ _).mp e))]
        exact u.lt p.2.1 q.2.1
    · rw [if_neg h1, PySem.W.dataLt_all_no (o.al p.1 q.1) (Bool.eq_false_iff.mpr fun e => h1 ((o.eq _ _).mp e))]
      exact o.lt p.1 q.1
  eq p q := by
    show PyData.eqv (.tuple [_, _, _]) (.tuple [_, _, _]) = true ↔ _
    simp only [PyData.eqv, PyData.eqvAll, Bool.and_true, Bool.and_eq_true]
    rw [show (PyData.eqv (toPy (f p.1)) (toPy (f q.1)) = true) = (eqD (f p.1) (f q.1) = true) from rfl, show (PyData.eqv (toPy (g p.2.1)) (toPy (g q.2.1)) = true) = (eqD (g p.2.1) (g q.2.1) = true) from rfl, show (PyData.eqv (toPy (h p.2.2)) (toPy (h q.2.2)) = true) = (eqD (h p.2.2) (h q.2.2) = true) from rfl, o.eq, u.eq, v.eq]
    rw [Prod.ext_iff, Prod.ext_iff]
  ok p := okL_tup fun d hd => by
    simp only [List.mem_cons, List.not_mem_nil, or_false] at hd
    rcases hd with rfl | rfl | rfl
    · exact okL_mono (o.ok _) (by omega)
    · exact okL_mono (u.ok _) (by omega)
    · exact okL_mono (v.ok _) (by omega)
/-- a total order -/
structure Tot {α : Type} (lt : α → α → Bool) : Prop where
  ir : ∀ a, lt a a = false
  tr : ∀ a b c, lt a b = true → lt b c = true → lt a c = true
  tri : ∀ a b, lt a b = false → lt b a = false → a = b
theorem Tot.int : Tot fun a b : Int => decide (a < b) := ⟨fun a => by simp, fun a b c h1 h2 => by simp only [decide_eq_true_eq] at *; omega, fun a b h1 h2 => by simp only [decide_eq_false_iff_not] at *; omega⟩
theorem Tot.row : Tot fun a b : List Int => decide (a < b) := ⟨fun a => decide_eq_false (List.lt_irrefl a), fun a b c h1 h2 => decide_eq_true (List.lt_trans (of_decide_eq_true h1) (of_decide_eq_true h2)), fun a b h1 h2 => List.le_antisymm (List.not_lt.mp (of_decide_eq_false h2)) (List.not_lt.mp (of_decide_eq_false h1))⟩
theorem Tot.as {α : Type} {lt : α → α → Bool} (t : Tot lt) {a b : α} (h : lt a b = true) : lt b a = false := by
  cases e : lt b a with
  | false => rfl
  | true => have := t.tr _ _ _ h e; rw [t.ir] at this; cases this
theorem Tot.ltP {α β : Type} [DecidableEq α] {lt : α → α → Bool} {lu : β → β → Bool} (t : Tot lt) (u : Tot lu) : Tot (DL.ltP lt lu) where
  ir p := by unfold DL.ltP; rw [if_pos rfl]; exact u.ir _
  tr p q r h1 h2 := by
    unfold DL.ltP at *
    by_cases e1 : p.1 = q.1
    · rw [if_pos e1] at h1
      by_cases e2 : q.1 = r.1
      · rw [if_pos e2] at h2
        rw [if_pos (e1.trans e2)]
        exact u.tr _ _ _ h1 h2
      · rw [if_neg e2] at h2
        rw [if_neg (fun e => e2 (e1.symm.trans e)), e1]
        exact h2
    · rw [if_neg e1] at h1
      by_cases e2 : q.1 = r.1
      · rw [if_pos e2] at h2
        rw [if_neg (fun e => e1 (e.trans e2.symm)), ← e2]
        exact h1
      · rw [if_neg e2] at h2
        have h3 := t.tr _ _ _ h1 h2
        rw [if_neg (fun e => by rw [e, t.ir] at h3; cases h3)]
        exact h3
  tri p q h1 h2 := by
    unfold DL.ltP at *
    by_cases e1 : p.1 = q.1
    · rw [if_pos e1] at h1
      rw [if_pos e1.symm] at h2
      exact Prod.ext e1 (u.tri _ _ h1 h2)
    · rw [if_neg e1] at h1
      rw [if_neg (Ne.symm e1)] at h2
      exact absurd (t.tri _ _ h1 h2) e1
theorem Tot.ltL {α : Type} [DecidableEq α] {lt : α → α → Bool} (t : Tot lt) : Tot (DL.ltL lt) where
  ir := fun xs => by
    induction xs with
    | nil => rfl
    | cons x xs ih => rw [DL.ltL, if_pos rfl]; exact ih
  tr := fun xs => by
    induction xs with
    | nil =>
      intro ys zs h1 h2
      cases ys with
      | nil => cases h1
      | cons y ys => cases zs with
        | nil => cases h2
        | cons z zs => rfl
    | cons x xs ih =>
      intro ys zs h1 h2
      cases ys with
      | nil => cases h1
      | cons y ys => cases zs with
        | nil => cases h2
        | cons z zs =>
          rw [DL.ltL] at h1 h2 ⊢
          by_cases e1 : x = y
          · rw [if_pos e1] at h1
            by_cases e2 : y = z
            · rw [if_pos e2] at h2
              rw [if_pos (e1.trans e2)]
              exact ih _ _ h1 h2
            · rw [if_neg e2] at h2
              rw [if_neg (fun e => e2 (e1.symm.trans e)), e1]
              exact h2
          · rw [if_neg e1] at h1
            by_cases e2 : y = z
            · rw [if_pos e2] at h2
              rw [if_neg (fun e => e1 (e.trans e2.symm)), ← e2]
              exact h1
            · rw [if_neg e2] at h2
              have h3 := t.tr _ _ _ h1 h2
              rw [if_neg (fun e => by rw [e, t.ir] at h3; cases h3)]
              exact h3
  tri := fun xs => by
    induction xs with
    | nil =>
      intro ys h1 h2
      cases ys with
      | nil => rfl
      | cons y ys => cases h1
    | cons x xs ih =>
      intro ys h1 h2
      cases ys with
      | nil => cases h2
      | cons y ys =>
        rw [DL.ltL] at h1 h2
        by_cases e : x = y
        · rw [if_pos e] at h1
          rw [if_pos e.symm] at h2
          rw [e, ih _ h1 h2]
        · rw [if_neg e] at h1
          rw [if_neg (Ne.symm e)] at h2
          exact absurd (t.tri _ _ h1 h2) e
theorem minBy_mem {α : Type} {lt : α → α → Bool} : ∀ (xs : List α) (x : α), minBy lt x xs ∈ x :: xs
  | [], x => by simp [minBy]
  | y :: ys, x => by
    have h := minBy_mem (lt := lt) ys (if lt y x = true then y else x)
    have e : minBy lt x (y :: ys) = minBy lt (if lt y x = true then y else x) ys := rfl
    rw [e]
    rcases List.mem_cons.mp h with h | h
    · rw [h]
      split <;> simp
    · simp [h]
theorem minBy_le {α : Type} {lt : α → α → Bool} (t : Tot lt) : ∀ (xs : List α) (x : α), ∀ z ∈ x :: xs, lt z (minBy lt x xs) = false
  | [], x, z, hz => by
    rw [List.mem_singleton.mp hz]
    exact t.ir x
  | y :: ys, x, z, hz => by
    have e : minBy lt x (y :: ys) = minBy lt (if lt y x = true then y else x) ys := rfl
    rw [e]
    have hh := minBy_le t ys (if lt y x = true then y else x) _ List.mem_cons_self
    rcases List.mem_cons.mp hz with rfl | hz
    · by_cases h : lt y z = true
      · rw [if_pos h] at hh ⊢
        cases e2 : lt z (minBy lt y ys) with
        | false => rfl
        | true => have := t.tr _ _ _ h e2; rw [this] at hh; cases hh
      · rw [if_neg h] at hh ⊢
        exact hh
    · rcases List.mem_cons.mp hz with rfl | hz
      · by_cases h : lt z x = true
        · rw [if_pos h] at hh ⊢
          exact hh
        · rw [if_neg h] at hh ⊢
          cases e2 : lt z (minBy lt x ys) with
          | false => rfl
          | true =>
            by_cases e3 : z = x
            · rw [e3, hh] at e2; cases e2
            · cases e4 : lt x z with
              | false => exact absurd (t.tri _ _ (Bool.eq_false_iff.mpr h) e4) e3
              | true => have := t.tr _ _ _ e4 e2; rw [this] at hh; cases hh
      · exact minBy_le t ys _ z (List.mem_cons_of_mem _ hz)
/-- the least depends on what is there alone -/
theorem minBy_set {α : Type} {lt : α → α → Bool} (t : Tot lt) {x y : α} {xs ys : List α} (h : ∀ z, z ∈ x :: xs ↔ z ∈ y :: ys) : minBy lt x xs = minBy lt y ys :=
  t.tri _ _ (minBy_le t ys y _ ((h _).mp (minBy_mem xs x))) (minBy_le t xs x _ ((h _).mpr (minBy_mem ys y)))
end DL
/-! DL39: equal rows by keys; texts of numbers. -/
namespace DL
open PySem PySem.Spec PyProof.Rows L2
theorem strOk_of (s : String) : PyData.strOk (Str.ofString s) = true := by
  unfold PyData.strOk
  rw [Str.ofString_eq_toList, Array.all_eq_true_iff_forall_mem]
  intro x hx
  obtain ⟨c, _, rfl⟩ := List.mem_map.mp (List.mem_toArray.mp hx)
  have h := c.valid
  unfold UInt32.isValidChar Nat.isValidChar at h
  show decide (c.toNat < 0x110000) = true
  have e : c.toNat = c.val.toNat := rfl
  rw [decide_eq_true_eq, e]
  omega
theorem log2_small {n : Nat} (h : n ≤ 100000) : n.log2 < 1920 := by
  by_cases h0 : n = 0
  · subst h0
    decide
  · have e : (2 : Nat) ^ 17 = 131072 := by decide
    have : n.log2 < 17 := (Nat.log2_lt h0).mpr (by omega)
    omega
theorem shD_intB {i : Int} (h : -100000 ≤ i ∧ i ≤ 100000) : ShD (.int i) 13 0 := by
  refine ⟨⟨PyData.shown_int_le (by omega), strOk_of _⟩, ?_, by simp [toPy, PyData.canLay0], by simp [toPy, PyData.depth]⟩
  simp only [toPy, PyData.showable, decide_eq_true_eq]
  exact log2_small (by omega)
theorem shD_non : ShD .non 4 0 := ⟨⟨by decide +kernel, by decide +kernel⟩, by decide +kernel, by decide +kernel, by decide +kernel⟩
theorem eqD_mapT {α κ : Type} [DecidableEq κ] {f : α → D} {k : α → κ} {l m : List α} (h : ∀ a ∈ l, ∀ b ∈ m, eqD (f a) (f b) = decide (k a = k b)) : eqD (.tup (l.map f)) (.tup (m.map f)) = decide (l.map k = m.map k) := by
  show PyData.eqv (.tuple _) (.tuple _) = _
  simp only [PyData.eqv]
  induction l generalizing m with
  | nil => cases m <;> simp [toPys, PyData.eqvAll]
  | cons x xs ih =>
    cases m with
    | nil => simp [toPys, PyData.eqvAll]
    | cons y ys =>
      rw [List.map_cons, List.map_cons, toPys, toPys, PyData.eqvAll, ih fun a ha b hb => h a (List.mem_cons_of_mem _ ha) b (List.mem_cons_of_mem _ hb), show PyData.eqv (toPy (f x)) (toPy (f y)) = eqD (f x) (f y) from rfl, h x List.mem_cons_self y List.mem_cons_self, List.map_cons, List.map_cons]
      simp only [List.cons.injEq, Bool.decide_and]
theorem eqD_tup2 {p q r s : D} : eqD (.tup [p, q]) (.tup [r, s]) = (eqD p r && eqD q s) := by
  simp [eqD, toPy, toPys, PyData.eqv, PyData.eqvAll]
theorem eqD_tup3 {p q r s t u : D} : eqD (.tup [p, q, r]) (.tup [s, t, u]) = (eqD p s && (eqD q t && eqD r u)) := by
  simp [eqD, toPy, toPys, PyData.eqv, PyData.eqvAll]
theorem eqD_tup4 {p q r v s t u w : D} : eqD (.tup [p, q, r, v]) (.tup [s, t, u, w]) = (eqD p s && (eqD q t && (eqD r u && eqD v w))) := by
  simp [eqD, toPy, toPys, PyData.eqv, PyData.eqvAll]
theorem eqD_ni {i : Int} : eqD .non (.int i) = false := by simp [eqD, toPy, PyData.eqv]
theorem eqD_in {i : Int} : eqD (.int i) .non = false := by simp [eqD, toPy, PyData.eqv]
end DL
/-! DL40: tuple(range(n)). -/
namespace DL
open PySem PySem.Spec PyProof.Rows L2
section
variable {X : Cx} {e a : Expr} {te : L2.St → Hp → (Int → Int → Hp → Prop) → Prop} {p pos p1 p2 : Pos}
def tTupRgF (te : L2.St → Hp → (Int → Int → Hp → Prop) → Prop) : TE := fun σ H Q => te σ H fun a b H1 => RgOk a b ∧ NewT H1 (rgV a b) Q
theorem pe_tupRgF {p pos : Pos} (hc : X.calm = true) (hg : Gl X "tuple") (hm : X.mg "tuple" = none) (he : PRg X e te) (na : starEach [e] X.env = (false, eval e X.env) :: starEach [] X.env := by rfl) : PE X (.Call (.Name "tuple" p) [e] [] pos) (tTupRgF te) := by
  refine ⟨fun pins s σ H Q I h => ?_⟩
  refine Call_ (ld_blt I hg hm boot_tuple (PyProof.Rows.callWith_type1 (args_cons (thn (he pins s σ H _ I h) fun x s1 ⟨r, a, b, t, u, v, H1, ex, hr, I1, ok, q⟩ => args_nil ?_) na) na))
  subst ex
  obtain ⟨b1, b2, b3, b4, b5⟩ := ok
  refine call_tuple_range (n := (b - a).toNat) (I1.ok.hd hc) hr (small_one b1 b2 b3 b4) (rangeSize_nat a b) b5 fun h' tk acc hk hi => ?_
  have I2 : Inv X pins σ H1 { s1 with heap := h', toks := tk } := I1.kept hk
  have := newT_at (s := { s1 with heap := h', toks := tk }) (its := acc.toList) (Q := Q) (t' := tk) I2 (vals_rg hi) (by rw [rgV_length, sizeLine_eq]; omega) q
  simpa only [Array.toArray_toList, tupO] using this
end
section
variable {X : Cx} {L : Lk} {K : PySem.W.Frag} {a : Expr} {ta : TE} {wa : DL.WE} {p pos : Pos}
def wTupRg1 (wa : DL.WE) : DL.WE := fun ρ S Q => wa ρ S fun x ρ1 S1 => ∃ n, x = .int n ∧ RgOk 0 n ∧ Q (.tup (rangeD 0 (n - 0).toNat)) ρ1 S1
theorem de_tupRg1 {p3 pos3 : Pos} (hc : X.calm = true) (hg : Gl X "tuple") (hm : X.mg "tuple" = none) (hg2 : Gl X "range") (hm2 : X.mg "range" = none) (h : DE X L a ta wa) (na : starEach [a] X.env = (false, eval a X.env) :: starEach [] X.env := by rfl)
    (na2 : starEach [.Call (.Name "range" p) [a] [] pos] X.env = (false, eval (.Call (.Name "range" p) [a] [] pos) X.env) :: starEach [] X.env := by rfl) :
    DE X L (.Call (.Name "tuple" p3) [.Call (.Name "range" p) [a] [] pos] [] pos3) (tTupRgF (tRg1 ta)) (wTupRg1 wa) :=
  ⟨pe_tupRgF hc hg hm (prg_1 hg2 hm2 h.pe na) na2, fun F ρ S σ H Q R mt q k => h.re F ρ S σ H _ _ mt q fun v H1 d ρ1 S1 F1 e1 m1 r1 ⟨n, e, ok, q1⟩ => by
    subst e
    cases r1
    exact ⟨n, rfl, ok, fun p o hp ho => newT_ok (Q := fun d S2 => Q d ρ1 S2) (fun v H' d S' F' e x r q => k v H' d ρ1 S' F' (e1.trans e) (m1.step e x) r q) m1.fs (rgV_D 0 n) q1 hp ho⟩⟩
end
end DL
/-! DL41: setdefault, get with a default of dicts with nested tuple keys. -/
namespace DL
open PySem PySem.Spec PyProof.Rows L2
section
variable {X : Cx} {pins : List (Addr × Obj)} {σ : L2.St} {H : Hp} {s : Shared} {a : Addr} {kvs : List (NestedKey × Addr × V)} {k : NestedKey} {y v : V} {u r : Value}
theorem nk_setDef {Q : Value → Shared → Prop} {F : Hp} {od : Obj} (hu : X.A.units + 10 < cLine) (I : Inv X pins σ H s) (e : ExF F H) (h1 : H a = some (NkO a od)) (h2 : NkF a od kvs) (h3 : ∀ p ∈ kvs, NkV X.K F p.1 (.ref p.2.1)) {b : Addr}
    (hk : NkV X.K F k (.ref b)) (ok : okN k = true) (hl : kvs.length < sizeLine) (rv : RelV v r) (g1 : ∀ v0, valN kvs k = some v0 → ∀ w' s', Inv X pins σ H s' → RelV v0 w' → Q w' s')
    (g2 : valN kvs k = none → ∀ od' s', NkF a od' (putN kvs k b v) → Inv X pins σ (upd H a (NkO a od')) s' → Q r s') : wpAny (model X.prog X.w) X.A (call (.builtin "dict.setdefault") [.ref a, .ref b, r]) Q X.xe s := by
  obtain ⟨xs, hm, kn, hsys, hz⟩ := NkAt.dict I ⟨F, od, e, h1, h2, h3⟩
  obtain ⟨_, _, hdp⟩ := okN_iff.mp ok
  have hkey : (nestedKind X.prog X.w).is s.heap k b := ⟨nk_is I e _ _ _ hk rfl, hdp⟩
  have hkv := kn.val k
  refine call_setdefault_heap (hsz := by rw [← Paired.length kn]; exact hz) (by show X.A.in1.units + 8 < cLine; simp only [Around.in1_units]; omega) hkey hsys hm (fun p hp => ?_) fun hn h' hm' hs => ?_
  · rw [hp] at hkv
    cases q0 : valN kvs k with
    | none => rw [q0] at hkv; exact (show False from hkv).elim
    | some v0 =>
      rw [q0] at hkv
      exact g1 v0 q0 _ _ (I.tok _) hkv
  · have q0 : valN kvs k = none := by
      rw [hn] at hkv
      cases q0 : valN kvs k with
      | none => rfl
      | some v0 => rw [q0] at hkv; exact (show False from hkv).elim
    obtain ⟨od', es, ep, ho, hx, hd, he, his, hnd⟩ := hm'
    have knp := kn.put (k := k) (b := b) rv
    refine g2 q0 od' _ ⟨hx, hsys, ⟨es, ep, _, hd, fun w => ?_, knp, hnd⟩, fun p hp => ?_, ?_⟩ (nk_write I ⟨od, h1⟩ hs ho)
    · rw [he]
      refine List.map_congr_left fun x hx => ?_
      obtain ⟨p, hp, e1, e2⟩ := KN.mem knp x hx
      have hv : ∃ v, NkV X.K F x.1 v := by
        rcases putN_mem hp with ⟨p', hp', e3, _⟩ | ⟨e3, _⟩
        · rw [← e1, ← e3]; exact ⟨_, h3 p' hp'⟩
        · rw [← e1, e3]; exact ⟨_, hk⟩
      obtain ⟨v0, hv⟩ := hv
      show DictEntry.mk _ _ _ = DictEntry.mk _ _ _
      rw [show (nestedKind X.prog X.w).hash x.1 = x.1.hash w from hash_w X.w w x.1 v0 hv]
    · rcases putN_mem hp with ⟨p', hp', e3, _⟩ | ⟨e3, _⟩
      · rw [← e3]; exact h2.dep p' hp'
      · rw [e3]; exact hdp
    · have := putN_len (kvs := kvs) (k := k) (v := v) b
      omega
theorem NkAt.here (I : Inv X pins σ H s) (d : NkAt X.K H a kvs) : s.TypeIs (.ref a) "dict" ∧ (∀ b, Value.ref a = .ref b → ∃ ob, s.heap.get? b = some ob ∧ ob.dict = none) := by
  obtain ⟨xs, hm, _⟩ := d.dict I
  refine ⟨hm.typeIs, fun b e => ?_⟩
  cases e
  obtain ⟨od, es, ep, ho, hx, _⟩ := hm
  exact ⟨od, ho, hx.2.1⟩
end
/-! ### d.setdefault(y, z), d.get(y, z) -/
def tNSetD (K : PySem.W.Frag) (td ty tx : TE) : TE := fun σ H Q => td σ H fun x H1 => ∃ a, x = .ref a ∧ (∃ kvs, NkAt K H1 a kvs) ∧ ty σ H1 fun y H2 => tx σ H2 fun z H3 => ∃ (F : Hp) (od : Obj) (kvs : List (NestedKey × Addr × V)) (k : NestedKey) (b : Addr), ExF F H3 ∧ H3 a = some (NkO a od) ∧ NkF a od kvs ∧ (∀ p ∈ kvs, NkV K F p.1 (.ref p.2.1)) ∧
  y = .ref b ∧ NkV K F k (.ref b) ∧ okN k = true ∧ kvs.length < sizeLine ∧ (∀ v, valN kvs k = some v → Q v H3) ∧ (valN kvs k = none → ∀ od', NkF a od' (putN kvs k b z) → Q z (upd H3 a (NkO a od')))
def tNGetD (K : PySem.W.Frag) (td ty tx : TE) : TE := fun σ H Q => td σ H fun x H1 => ∃ a, x = .ref a ∧ (∃ kvs, NkAt K H1 a kvs) ∧ ty σ H1 fun y H2 => tx σ H2 fun z H3 => ∃ (kvs : List (NestedKey × Addr × V)) (k : NestedKey), NkAt K H3 a kvs ∧ NkK K H3 k y ∧ Q ((valN kvs k).getD z) H3
section
variable {X : Cx} {o e f : Expr} {td ty tx : TE} {apos cpos : Pos}
theorem pe_nsetd (hu : X.A.units + 65 < cLine) (ho : PE X o td) (he : PE X e ty) (hf : PE X f tx) (m : M2 X o "setdefault" apos e f cpos) : PE X (.Call (.Attribute o "setdefault" apos) [e, f] [] cpos) (tNSetD X.K td ty tx) := by
  refine ⟨fun pins s σ H Q I h => ?_⟩
  refine wpAny_Call_method m.base m.few m.line PySem.F.plainAttrs_dict PySem.F.slot_dict_setdefault PySem.F.type_dict_setdefault (thn (ho.run pins s σ H _ I h) fun u s1 ⟨x, H1, I1, rx, a, ex, ⟨kvs0, d⟩, q1⟩ => ?_)
  subst ex
  obtain rfl : u = Value.ref a := rx
  obtain ⟨t1, t2⟩ := d.here I1
  refine ⟨t1, t2, ?_⟩
  rw [m.trees]
  refine Calls.callWith_builtin rfl (Calls.evalArgs_plain (Calls.spliced_cons (thn (he.run pins s1 σ H1 _ I1 q1) fun iv s2 ⟨y, H2, I2, ry, q2⟩ =>
    Calls.spliced_cons (thn (hf.run pins s2 σ H2 _ I2 q2) fun fv s3 ⟨z, H3, I3, rz, F, od, kvs, k, b, e1, h1, h2, h3, ey, hk, ok, hl, q3, q4⟩ => Calls.spliced_nil ?_))))
  subst ey
  obtain rfl : iv = Value.ref b := ry
  exact nk_setDef (by omega) I3 e1 h1 h2 h3 hk ok hl rz (fun v hv w' s4 I4 rw' => ⟨v, _, I4, rw', q3 v hv⟩) fun hn od' s4 hf I4 => ⟨z, _, I4, rz, q4 hn od' hf⟩
theorem pe_ngetd (hu : X.A.units + 65 < cLine) (ho : PE X o td) (he : PE X e ty) (hf : PE X f tx) (m : M2 X o "get" apos e f cpos) : PE X (.Call (.Attribute o "get" apos) [e, f] [] cpos) (tNGetD X.K td ty tx) := by
  refine ⟨fun pins s σ H Q I h => ?_⟩
  refine wpAny_Call_method m.base m.few m.line PySem.F.plainAttrs_dict PySem.F.slot_dict_get PySem.F.type_dict_get (thn (ho.run pins s σ H _ I h) fun u s1 ⟨x, H1, I1, rx, a, ex, ⟨kvs0, d⟩, q1⟩ => ?_)
  subst ex
  obtain rfl : u = Value.ref a := rx
  obtain ⟨t1, t2⟩ := d.here I1
  refine ⟨t1, t2, ?_⟩
  rw [m.trees]
  refine Calls.callWith_builtin rfl (Calls.evalArgs_plain (Calls.spliced_cons (thn (he.run pins s1 σ H1 _ I1 q1) fun iv s2 ⟨y, H2, I2, ry, q2⟩ =>
    Calls.spliced_cons (thn (hf.run pins s2 σ H2 _ I2 q2) fun fv s3 ⟨z, H3, I3, rz, kvs, k, hd, hk, q3⟩ => Calls.spliced_nil ?_))))
  obtain ⟨xs, hm, kn, hsys, hz⟩ := hd.dict I3
  obtain ⟨b, rfl, rfl, hkey⟩ := hk.key I3 ry
  refine getOr_keyed (by show X.A.in1.units + 8 < cLine; simp only [Around.in1_units]; omega) hkey hsys ⟨xs, hm, rfl⟩ ?_
  rw [valueAt_pairsH]
  have hkv := kn.val k
  cases q0 : valN kvs k with
  | none =>
    rw [q0] at hkv q3
    cases q1 : (atKey xs k).map (·.2) with
    | none => exact ⟨z, H3, I3.tok _, rz, q3⟩
    | some w => rw [q1] at hkv; exact (show False from hkv).elim
  | some v0 =>
    rw [q0] at hkv q3
    cases q1 : (atKey xs k).map (·.2) with
    | none => rw [q1] at hkv; exact (show False from hkv).elim
    | some w => rw [q1] at hkv; exact ⟨v0, H3, I3.tok _, hkv, q3⟩
end
/-! ### readings -/
section
variable {X : Cx} {L : Lk} {K : PySem.W.Frag} {o e f : Expr} {td ty tx : TE} {wd wy wz : DL.WE} {apos cpos : Pos}
def isDicT (S : MS) (a : Addr) : Prop := ∃ ks ds, S a = some (.dicT ks ds)
def wNSetD (wd wy wz : DL.WE) : DL.WE := fun ρ S Q => wd ρ S fun x ρ1 S1 => ∃ a, x = .ref a ∧ isDicT S1 a ∧ wy ρ1 S1 fun y ρ2 S2 => wz ρ2 S2 fun z ρ3 S3 => ∃ ks ds k, S3 a = some (.dicT ks ds) ∧ y = nkD k ∧ okN k = true ∧ ks.length < sizeLine ∧
  (hasN k ks = true → ∃ d, lookN ks ds k = some d ∧ Q d ρ3 S3) ∧ (hasN k ks = false → Q z ρ3 (S3.set a (.dicT (ks ++ [k]) (ds ++ [z]))))
theorem lookN_none {k : NestedKey} : ∀ {ks : List NestedKey} {ds : List D}, hasN k ks = false → lookN ks ds k = none
  | [], ds, _ => by cases ds <;> rfl
  | k' :: ks, [], _ => rfl
  | k' :: ks, d :: ds, h => by
    unfold hasN at h
    rw [List.any_cons, Bool.or_eq_false_iff, decide_eq_false_iff_not] at h
    show (if k' = k then some d else lookN ks ds k) = none
    rw [if_neg h.1]
    exact lookN_none h.2
theorem isDicT_at {F : Hp} {S : MS} {H : Hp} {a : Addr} (fs : FS K F S H) (h : isDicT S a) : ∃ kvs, NkAt K H a kvs := by
  obtain ⟨ks, ds, hs⟩ := h
  obtain ⟨_, od, kvs, k1, k2, k3, k4, k5⟩ := fs.st a _ hs
  exact ⟨kvs, F, od, fs.fr, k1, k2, k4⟩
theorem re_nsetd (hd : RE K L td wd) (hy : RE K L ty wy) (hz : RE K L tx wz) : RE K L (tNSetD K td ty tx) (wNSetD wd wy wz) := by
  intro F ρ S σ H Q R m q kk
  refine hd F ρ S σ H _ _ m q fun x H1 dx ρ1 S1 F1 e1 m1 r1 ⟨a, hx, hda, q1⟩ => ?_
  subst hx
  cases r1
  refine ⟨a, rfl, isDicT_at m1.fs hda, ?_⟩
  refine hy F1 ρ1 S1 σ H1 _ _ m1 q1 fun y H2 dy ρ2 S2 F2 e2 m2 r2 q2 => ?_
  refine hz F2 ρ2 S2 σ H2 _ _ m2 q2 fun z H3 dz ρ3 S3 F3 e3 m3 r3 ⟨ks, ds, k, hs, hy, ok, hl, q3, q4⟩ => ?_
  subst hy
  obtain ⟨h1, h2, h3⟩ := okN_iff.mp ok
  have hk := nkv_of k y h2 (r2.up e3)
  obtain ⟨ks', rfl⟩ := nkD_tk h1
  have hk' := hk
  cases hk' with
  | @tup _ b vs _ _ =>
    obtain ⟨_, od, kvs, k1, k2, k3, k4, k5⟩ := m3.fs.st a _ hs
    subst k3
    rw [List.length_map] at hl
    refine ⟨F3, od, kvs, .tup ks', b, m3.fs.fr, k1, k2, k4, rfl, hk, ok, hl, fun v hv => ?_, fun hn od' hf => ?_⟩
    · have hh : hasN (.tup ks') (kvs.map (·.1)) = true := by rw [← valN_mem, hv]; rfl
      obtain ⟨d, e4, q5⟩ := q3 hh
      obtain ⟨v', e5, rv⟩ := reps_lookN k5 e4
      rw [hv] at e5
      cases e5
      exact kk v H3 d ρ3 S3 F3 ((e1.trans e2).trans e3) m3 rv q5
    · have hh : hasN (.tup ks') (kvs.map (·.1)) = false := by rw [← valN_mem, hn]; rfl
      have q5 := q4 hh
      have keys : ∀ p ∈ putN kvs (.tup ks') b z, NkV K F3 p.1 (.ref p.2.1) := fun p hp => by
        rcases putN_mem hp with ⟨p', hp', e3, e4⟩ | ⟨e3, e4⟩
        · rw [← e3, ← e4]; exact k4 p' hp'
        · rw [e3, e4]; exact hk
      have e : putN kvs (.tup ks') b z = kvs ++ [(.tup ks', b, z)] := by
        unfold putN
        rw [hn]
        rfl
      rw [e] at hf keys
      have wr : FS K F3 (S3.set a (.dicT (kvs.map (·.1) ++ [.tup ks']) (ds ++ [dz]))) (upd H3 a (NkO a od')) := m3.fs.write hs rfl ⟨od', _, upd_same, hf, by rw [List.map_append]; rfl, keys, by rw [List.map_append]; exact k5.append (.cons r3 .nil)⟩
      exact kk z _ dz ρ3 _ F3 ((e1.trans e2).trans e3) (m3.step (ExF.refl F3) wr) r3 q5
theorem de_nsetd (K : PySem.W.Frag) (hu : X.A.units + 65 < cLine) (ho : DE X L o td wd) (he : DE X L e ty wy) (hf : DE X L f tx wz) (m : M2 X o "setdefault" apos e f cpos) (hK : X.K = K := by rfl) : DE X L (.Call (.Attribute o "setdefault" apos) [e, f] [] cpos) (tNSetD K td ty tx) (wNSetD wd wy wz) := by
  subst hK
  exact ⟨pe_nsetd hu ho.pe he.pe hf.pe m, re_nsetd ho.re he.re hf.re⟩
def wNGetD (wd wy wz : DL.WE) : DL.WE := fun ρ S Q => wd ρ S fun x ρ1 S1 => (∃ ks ds, rd S1 x = .dicT ks ds) ∧ wy ρ1 S1 fun y ρ2 S2 => wz ρ2 S2 fun z ρ3 S3 => ∃ ks ds k, rd S3 x = .dicT ks ds ∧ y = nkD k ∧ okN k = true ∧
  (hasN k ks = true → ∃ d, lookN ks ds k = some d ∧ Q d ρ3 S3) ∧ (hasN k ks = false → Q z ρ3 S3)
theorem re_ngetd (hd : RE K L td wd) (hy : RE K L ty wy) (hz : RE K L tx wz) : RE K L (tNGetD K td ty tx) (wNGetD wd wy wz) := by
  intro F ρ S σ H Q R m q kk
  refine hd F ρ S σ H _ _ m q fun x H1 dx ρ1 S1 F1 e1 m1 r1 ⟨⟨ks0, ds0, hx0⟩, q1⟩ => ?_
  have rx0 := rd_ok m1.fs r1
  rw [hx0] at rx0
  obtain ⟨a, od0, kvs0, rfl, g1, g2, g3, g4, g5⟩ := rx0
  refine ⟨a, rfl, ⟨kvs0, F1, od0, m1.fs.fr, g1, g2, g4⟩, ?_⟩
  refine hy F1 ρ1 S1 σ H1 _ _ m1 q1 fun y H2 dy ρ2 S2 F2 e2 m2 r2 q2 => ?_
  refine hz F2 ρ2 S2 σ H2 _ _ m2 q2 fun z H3 dz ρ3 S3 F3 e3 m3 r3 ⟨ks, ds, k, hs, hy, ok, q3, q4⟩ => ?_
  subst hy
  obtain ⟨h1, h2, h3⟩ := okN_iff.mp ok
  have hk := nkv_of k y h2 (r2.up e3)
  have rx := rd_ok m3.fs (r1.up (e2.trans e3))
  rw [hs] at rx
  obtain ⟨a', od, kvs, ea, k1, k2, k3, k4, k5⟩ := rx
  cases ea
  subst k3
  refine ⟨kvs, k, ⟨F3, od, m3.fs.fr, k1, k2, k4⟩, ⟨F3, m3.fs.fr, hk, ok⟩, ?_⟩
  cases hv : valN kvs k with
  | none =>
    have hh : hasN k (kvs.map (·.1)) = false := by rw [← valN_mem, hv]; rfl
    exact kk z H3 dz ρ3 S3 F3 ((e1.trans e2).trans e3) m3 r3 (q4 hh)
  | some v =>
    have hh : hasN k (kvs.map (·.1)) = true := by rw [← valN_mem, hv]; rfl
    obtain ⟨d, e4, q5⟩ := q3 hh
    obtain ⟨v', e5, rv⟩ := reps_lookN k5 e4
    rw [hv] at e5
    cases e5
    exact kk v H3 d ρ3 S3 F3 ((e1.trans e2).trans e3) m3 rv q5
theorem de_ngetd (K : PySem.W.Frag) (hu : X.A.units + 65 < cLine) (ho : DE X L o td wd) (he : DE X L e ty wy) (hf : DE X L f tx wz) (m : M2 X o "get" apos e f cpos) (hK : X.K = K := by rfl) : DE X L (.Call (.Attribute o "get" apos) [e, f] [] cpos) (tNGetD K td ty tx) (wNGetD wd wy wz) := by
  subst hK
  exact ⟨pe_ngetd hu ho.pe he.pe hf.pe m, re_ngetd ho.re he.re hf.re⟩
end
end DL
/-! DL42: sorted(d), d a dict with tuple keys, the empty tuple too where it is the only key. -/
namespace DL
open PySem PySem.Spec PyProof.Rows L2
section
variable {prog : Program} {w : World} {A : Around} {E : Value → Shared → Prop} {s : Shared}
theorem perm_le1 {α : Type} {l m : List α} (h : l.Perm m) (hm : m.length ≤ 1) : l = m := by
  cases m with
  | nil => exact List.perm_nil.mp h
  | cons x xs =>
    have : xs = [] := List.length_eq_zero_iff.mp (by simpa using hm)
    subst this
    exact List.perm_singleton.mp h
/-- sorted(x), x of one item at most -/
theorem sorted_small {v : Value} {us : List Value} {Q : Value → Shared → Prop} (Ok : Shared → Prop) (h1 : us.length ≤ 1)
    (hcol : wpAny (model prog w) A.in1 (collect v) (fun ys s1 => ys = us ∧ Ok s1) E s)
    (hS : ∀ s1, Ok s1 → ∀ (h' : Heap) (e : Nat), (∀ b o, s1.heap.get? b = some o → h'.get? b = some o) → h'.get? s1.heap.objs.size = some (seqObj "list" us.toArray e) → Q (.ref s1.heap.objs.size) { s1 with heap := h' }) :
    wpAny (model prog w) A (call (.builtin "sorted") [v]) Q E s := by
  have hz : us.length ≤ sizeLine := by rw [sizeLine_eq]; omega
  refine Calls.call_function_entry kind_sorted plain_sorted entry_sorted (args_sorted1 v) ?_
  unfold Builtin.«sorted»
  refine wpAny_bind (m := checkCount "sorted" 1 1 [v].length) (wpAny_pure ?_)
  refine wpAny_bind (wpAny_mono hcol (fun ys s1 hy => ?_) fun _ _ x => x)
  obtain ⟨rfl, ok⟩ := hy
  refine wpAny_bind (wpAny_newList (s := s1) ?_ hz)
  have hoL : (s1.heap.push (seqObj "list" ys.toArray 0)).get? s1.heap.objs.size = some (seqObj "list" ys.toArray 0) := Heap.get?_push_size s1.heap rfl
  have hQ := hS s1 ok
  refine wpAny_bind (wpAny_holding (wpAny_call_entry slot_list_sort ⟨_, hoL, rfl⟩ entry_list_sort (Srt.list_sort_any (s := { s1 with heap := s1.heap.push (seqObj "list" ys.toArray 0) }) hoL hz (fun h2 => by omega) fun out hp => ⟨_, rfl, ?_⟩) (args_list_sort _)))
  have eo := perm_le1 hp h1
  subst eo
  obtain ⟨e, he⟩ := sortedHeap_at (vs := out) (out := out.toArray) hoL
  refine wpAny_pure ⟨_, rfl, hQ _ e (fun b o q => ?_) he⟩
  exact (PyProof.Rows.sortedHeap_old (Nat.ne_of_lt (Heap.lt_size q)) (Heap.lt_size (Heap.get?_push_of_some _ q))).trans (Heap.get?_push_of_some _ q)
end
section
variable {X : Cx} {K : PySem.W.Frag} {F F' H H' : Hp} {S S' : MS}
def rSortedS (K : PySem.W.Frag) : List V → Hp → VK → Prop := fun xs H Q => rSortedN K xs H Q ∨ ∃ (a : Addr) (o : Obj) (kvs : List (NestedKey × Addr × V)), xs = [.ref a] ∧ H a = some (NkO a o) ∧ NkF a o kvs ∧ kvs.length ≤ 1 ∧
  ∀ p, H p = none → Q (.ref p) (upd H p (.lst (kvs.map fun p => V.ref p.2.1)))
theorem cr_sortedS (K : PySem.W.Frag) (hu : X.A.units + 64 < cLine) (hc : X.calm = true) (hK : X.K = K := by rfl) : CallR X (.builtin "sorted") (rSortedS K) := by
  subst hK
  intro pins s σ H xs us Q I r h
  rcases h with h | ⟨a, o, kvs, rfl, hd, nf, h1, q⟩
  · exact cr_sortedN X.K hu hc rfl pins s σ H xs us Q I r h
  · rw [Vals.ref1 r]
    refine sorted_small (us := kvs.map fun p => Value.ref p.2.1) _ (by rw [List.length_map]; exact h1) (by exact col_keysN I (I.ok.hd hc) hd nf) fun s1 ok h' e k' he' => ?_
    obtain ⟨h1', tk, rfl, k1⟩ := ok
    have I1 : Inv X pins σ H { s with heap := h1', toks := tk } := I.kept k1
    exact ⟨.ref h1'.objs.size, _, I1.laid (t' := tk) (o := .lst (kvs.map fun p => V.ref p.2.1)) k' (Nat.le_refl _) ⟨by rw [List.length_map, sizeLine_eq]; omega, _, e, vals_refsN kvs, he'⟩, rfl, q _ (I1.hok.fresh (Nat.le_refl _))⟩
def cSortedS (m : Bool) : D → MS → KV2 → Prop := fun x S Q => ∃ ks ds, x = .dicT ks ds ∧ (okSort (ks.map nkD) ∧ (∀ k ∈ ks, okL 60 (nkD k) = true) ∨ ks.length ≤ 1) ∧ newL m (sortD (ks.map nkD)) S Q
theorem sortD_le1 {ds : List D} (h : ds.length ≤ 1) : sortD ds = ds := perm_le1 (List.mergeSort_perm ds leD) h
theorem roc_sortedS1 (m : Bool) : ROc K (fun xs H Q => ∃ (a : Addr) (o : Obj) (kvs : List (NestedKey × Addr × V)), xs = [.ref a] ∧ H a = some (NkO a o) ∧ NkF a o kvs ∧ kvs.length ≤ 1 ∧ ∀ p, H p = none → Q (.ref p) (upd H p (.lst (kvs.map fun p => V.ref p.2.1)))) (w1 fun x S Q => ∃ ks ds, x = .dicT ks ds ∧ ks.length ≤ 1 ∧ newL m (sortD (ks.map nkD)) S Q) := roc1 fun F S H x v Q R fs rx ⟨ks, ds, hx, h1, q⟩ k => by
  subst hx
  obtain ⟨a, od, kvs, rfl, g1, g2, g3, g4, g5⟩ := rx
  subst g3
  rw [sortD_le1 (by rw [List.length_map]; exact h1)] at q
  rw [List.length_map] at h1
  refine ⟨a, od, kvs, rfl, g1, g2, h1, fun p hp => newL_ok k fs ?_ q hp⟩
  rw [List.map_map]
  have : ∀ l : List (NestedKey × Addr × V), (∀ p ∈ l, p ∈ kvs) → Reps K F (l.map (nkD ∘ fun p => p.1)) (l.map fun p => V.ref p.2.1) := fun l => by
    induction l with
    | nil => intro _; exact .nil
    | cons p l ih => intro hl; exact .cons (rep_nk _ _ (g4 p (hl p List.mem_cons_self))) (ih fun q hq => hl q (List.mem_cons_of_mem _ hq))
  exact this kvs fun _ h => h
theorem roc_sortedS (m : Bool) : ROc K (rSortedS K) (w1 (cSortedS m)) := by
  intro F S H xs vs Q R fs rs q k
  match xs, rs, q with
  | [d], rs, q =>
    obtain ⟨ks, ds, hx, ho, q⟩ := (show cSortedS m (rd S d) S Q from q)
    rcases ho with ⟨ho, hk⟩ | h1
    · exact .inl (roc_sortedN m F S H [d] vs Q R fs rs ⟨ks, ds, hx, ho, hk, q⟩ k)
    · exact .inr (roc_sortedS1 m F S H [d] vs Q R fs rs ⟨ks, ds, hx, h1, q⟩ k)
end
end DL
/-! DL43: list(range(a, b)). -/
namespace DL
open PySem PySem.Spec PyProof.Rows L2
section
variable {X : Cx} {L : Lk} {K : PySem.W.Frag} {a b : Expr} {ta tb : TE} {wa wb : DL.WE} {p pos : Pos}
def wLstRg2 (m : Bool) (wa wb : DL.WE) : DL.WE := fun ρ S Q => wa ρ S fun x ρ1 S1 => wb ρ1 S1 fun y ρ2 S2 => ∃ i j, x = .int i ∧ y = .int j ∧ RgOk i j ∧ newL m (rangeD i (j - i).toNat) S2 fun d S3 => Q d ρ2 S3
theorem de_listRg2 (m : Bool) {p3 pos3 : Pos} (hc : X.calm = true) (hg : Gl X "list") (hm : X.mg "list" = none) (hg2 : Gl X "range") (hm2 : X.mg "range" = none) (h : DE X L a ta wa) (h' : DE X L b tb wb) (na : starEach [a, b] X.env = (false, eval a X.env) :: starEach [b] X.env := by rfl) (nb : starEach [b] X.env = (false, eval b X.env) :: starEach [] X.env := by rfl)
    (hp : (backTo pos (starEach [b] X.env)).any (·.1) = false := by rfl) (na2 : starEach [.Call (.Name "range" p) [a, b] [] pos] X.env = (false, eval (.Call (.Name "range" p) [a, b] [] pos) X.env) :: starEach [] X.env := by rfl) :
    DE X L (.Call (.Name "list" p3) [.Call (.Name "range" p) [a, b] [] pos] [] pos3) (tLstRg (tRg2 ta tb)) (wLstRg2 m wa wb) :=
  ⟨pe_listRg hc hg hm (prg_2 hg2 hm2 h.pe h'.pe na nb hp) na2, fun F ρ S σ H Q R mt q k => h.re F ρ S σ H _ _ mt q fun v H1 d ρ1 S1 F1 e1 m1 r1 q1 => h'.re F1 ρ1 S1 σ H1 _ _ m1 q1 fun v2 H2 d2 ρ2 S2 F2 e2 m2 r2 ⟨i, j, e, e', ok, q2⟩ => by
    subst e e'
    cases r1
    cases r2
    exact ⟨i, j, rfl, rfl, ok, fun p hp => newL_ok (Q := fun d S3 => Q d ρ2 S3) (fun v H' d S' F' e x r q => k v H' d ρ2 S' F' ((e1.trans e2).trans e) (m2.step e x) r q) m2.fs (rgV_D i j) q2 hp⟩⟩
end
end DL
namespace W89
open PySem PySem.Spec PyProof.Rows L2 DL
def topS (i : Nat) : Stmt := PySem.Challenge.pw_layertold_k89_whole_plans_as_likely_as_t.main.body.getD i (.Pass ⟨0, 0, 0, 0⟩)
def inS (i j : Nat) : Stmt := match topS i with
  | .ClassDef _ _ _ b _ _ _ _ _ _ _ => b.getD j (.Pass ⟨0, 0, 0, 0⟩)
  | _ => .Pass ⟨0, 0, 0, 0⟩
abbrev s_is_integer : Stmt := topS 1
abbrev s_is_within : Stmt := topS 2
abbrev s_is_number : Stmt := topS 3
abbrev s_is_tuple : Stmt := topS 4
abbrev s_is_lot : Stmt := topS 5
abbrev s_lowest : Stmt := topS 6
abbrev s_is_pair : Stmt := topS 21
abbrev s_are_overs : Stmt := topS 22
abbrev s_is_bound : Stmt := topS 23
abbrev s_is_date : Stmt := topS 24
abbrev s_is_kind : Stmt := topS 25
abbrev s_is_window : Stmt := topS 31
abbrev s_check_window : Stmt := topS 32
abbrev s_check_small : Stmt := topS 33
abbrev s_many_plans : Stmt := topS 35
abbrev s_plan_at : Stmt := topS 36
abbrev s_plan_chance : Stmt := topS 37
abbrev s_common : Stmt := topS 39
abbrev s_reduced : Stmt := topS 40
abbrev s_plus : Stmt := topS 41
abbrev s_product : Stmt := topS 42
abbrev s_planner_for : Stmt := topS 44
abbrev s_shares_in : Stmt := topS 45
abbrev s_plan_times : Stmt := topS 46
abbrev s_plan_mean : Stmt := topS 47
abbrev s_with_both : Stmt := topS 48
abbrev s_plan_pair : Stmt := topS 49
abbrev s_likeliest_plan_time : Stmt := topS 50
abbrev s__law_hand : Stmt := topS 52
abbrev s__law_draw : Stmt := topS 53
abbrev s__law_any : Stmt := topS 54
abbrev s__law_is : Stmt := topS 55
abbrev s__law_mixed : Stmt := topS 56
abbrev s__law_orders : Stmt := topS 57
abbrev s__law_parts : Stmt := topS 58
abbrev s__law_fits : Stmt := topS 59
abbrev s__law_fitting : Stmt := topS 60
abbrev s__law_unlike : Stmt := topS 61
abbrev s__law_plans : Stmt := topS 62
abbrev s__law_low : Stmt := topS 63
abbrev s_law : Stmt := topS 64
abbrev s_Book___init__ : Stmt := inS 26 0
abbrev s_Book___eq__ : Stmt := inS 26 1
abbrev s_Book_parts : Stmt := inS 26 2
abbrev s_Planner___init__ : Stmt := inS 34 0
abbrev s_Planner_narrowed : Stmt := inS 34 1
abbrev s_Planner_many : Stmt := inS 34 2
abbrev s_Planner_whole : Stmt := inS 34 3
abbrev s_Planner_at : Stmt := inS 34 4
abbrev s_Planner_with_time : Stmt := inS 34 5
def fa : List He.Fa := [.glo "is_integer", .glo "is_within", .glo "is_number", .glo "is_tuple", .glo "is_lot", .glo "lowest", .glo "is_pair", .glo "are_overs", .glo "is_bound", .glo "is_date", .glo "is_kind", .glo "is_window", .glo "check_window", .glo "check_small", .glo "many_plans", .glo "plan_at", .glo "plan_chance", .glo "common", .glo "reduced", .glo "plus", .glo "product", .glo "planner_for", .glo "shares_in", .glo "plan_times", .glo "plan_mean", .glo "with_both", .glo "plan_pair", .glo "likeliest_plan_time", .glo "_law_hand", .glo "_law_draw", .glo "_law_any", .glo "_law_is", .glo "_law_mixed", .glo "_law_parts", .glo "_law_unlike", .glo "_law_plans", .glo "_law_low", .glo "law", .glo "Book", .glo "Planner", .int "MOST_LAYERS" 16, .int "MOST_KINDS" 16, .int "FARTHEST" 100000, .int "MOST_PLANNED" 10, .int "FARTHEST_TIME" 1000, .int "WIDEST" 40, .free "abs", .free "all", .free "any", .free "bool", .free "enumerate", .free "int", .free "isinstance", .free "len", .free "list", .free "max", .free "min", .free "range", .free "repr", .free "sorted", .free "str", .free "sum", .free "tuple", .free "zip", .cls "Book", .mkr "Book", .noat "Book" "looked", .noat "Book" "count", .noat "Book" "overs", .noat "Book" "dates", .noat "Book" "kinds", .cls "Planner", .mkr "Planner", .noat "Planner" "bounds", .noat "Planner" "known", .noat "Planner" "book", .noat "Planner" "strict", .meth "Planner" "narrowed", .meth "Planner" "many", .meth "Planner" "whole", .meth "Planner" "at", .meth "Planner" "with_time"]
def d_is_integer : He.DefD := ⟨("is_integer", none), "is_integer", "is_integer", defArgs s_is_integer, defBody s_is_integer, defScope s_is_integer, [], []⟩
def d_is_within : He.DefD := ⟨("is_within", none), "is_within", "is_within", defArgs s_is_within, defBody s_is_within, defScope s_is_within, [], []⟩
def d_is_number : He.DefD := ⟨("is_number", none), "is_number", "is_number", defArgs s_is_number, defBody s_is_number, defScope s_is_number, [], []⟩
def d_is_tuple : He.DefD := ⟨("is_tuple", none), "is_tuple", "is_tuple", defArgs s_is_tuple, defBody s_is_tuple, defScope s_is_tuple, [], []⟩
def d_is_lot : He.DefD := ⟨("is_lot", none), "is_lot", "is_lot", defArgs s_is_lot, defBody s_is_lot, defScope s_is_lot, [], []⟩
def d_lowest : He.DefD := ⟨("lowest", none), "lowest", "lowest", defArgs s_lowest, defBody s_lowest, defScope s_lowest, [], []⟩
def d_is_pair : He.DefD := ⟨("is_pair", none), "is_pair", "is_pair", defArgs s_is_pair, defBody s_is_pair, defScope s_is_pair, [], []⟩
def d_are_overs : He.DefD := ⟨("are_overs", none), "are_overs", "are_overs", defArgs s_are_overs, defBody s_are_overs, defScope s_are_overs, [], []⟩
def d_is_bound : He.DefD := ⟨("is_bound", none), "is_bound", "is_bound", defArgs s_is_bound, defBody s_is_bound, defScope s_is_bound, [], []⟩
def d_is_date : He.DefD := ⟨("is_date", none), "is_date", "is_date", defArgs s_is_date, defBody s_is_date, defScope s_is_date, [], []⟩
def d_is_kind : He.DefD := ⟨("is_kind", none), "is_kind", "is_kind", defArgs s_is_kind, defBody s_is_kind, defScope s_is_kind, [], []⟩
def d_is_window : He.DefD := ⟨("is_window", none), "is_window", "is_window", defArgs s_is_window, defBody s_is_window, defScope s_is_window, [], []⟩
def d_check_window : He.DefD := ⟨("check_window", none), "check_window", "check_window", defArgs s_check_window, defBody s_check_window, defScope s_check_window, [], []⟩
def d_check_small : He.DefD := ⟨("check_small", none), "check_small", "check_small", defArgs s_check_small, defBody s_check_small, defScope s_check_small, [], []⟩
def d_many_plans : He.DefD := ⟨("many_plans", none), "many_plans", "many_plans", defArgs s_many_plans, defBody s_many_plans, defScope s_many_plans, [], []⟩
def d_plan_at : He.DefD := ⟨("plan_at", none), "plan_at", "plan_at", defArgs s_plan_at, defBody s_plan_at, defScope s_plan_at, [], []⟩
def d_plan_chance : He.DefD := ⟨("plan_chance", none), "plan_chance", "plan_chance", defArgs s_plan_chance, defBody s_plan_chance, defScope s_plan_chance, [], []⟩
def d_common : He.DefD := ⟨("common", none), "common", "common", defArgs s_common, defBody s_common, defScope s_common, [], []⟩
def d_reduced : He.DefD := ⟨("reduced", none), "reduced", "reduced", defArgs s_reduced, defBody s_reduced, defScope s_reduced, [], []⟩
def d_plus : He.DefD := ⟨("plus", none), "plus", "plus", defArgs s_plus, defBody s_plus, defScope s_plus, [], []⟩
def d_product : He.DefD := ⟨("product", none), "product", "product", defArgs s_product, defBody s_product, defScope s_product, [], []⟩
def d_planner_for : He.DefD := ⟨("planner_for", none), "planner_for", "planner_for", defArgs s_planner_for, defBody s_planner_for, defScope s_planner_for, [], []⟩
def d_shares_in : He.DefD := ⟨("shares_in", none), "shares_in", "shares_in", defArgs s_shares_in, defBody s_shares_in, defScope s_shares_in, [], []⟩
def d_plan_times : He.DefD := ⟨("plan_times", none), "plan_times", "plan_times", defArgs s_plan_times, defBody s_plan_times, defScope s_plan_times, [], []⟩
def d_plan_mean : He.DefD := ⟨("plan_mean", none), "plan_mean", "plan_mean", defArgs s_plan_mean, defBody s_plan_mean, defScope s_plan_mean, [], []⟩
def d_with_both : He.DefD := ⟨("with_both", none), "with_both", "with_both", defArgs s_with_both, defBody s_with_both, defScope s_with_both, [], []⟩
def d_plan_pair : He.DefD := ⟨("plan_pair", none), "plan_pair", "plan_pair", defArgs s_plan_pair, defBody s_plan_pair, defScope s_plan_pair, [], []⟩
def d_likeliest_plan_time : He.DefD := ⟨("likeliest_plan_time", none), "likeliest_plan_time", "likeliest_plan_time", defArgs s_likeliest_plan_time, defBody s_likeliest_plan_time, defScope s_likeliest_plan_time, [], []⟩
def d__law_hand : He.DefD := ⟨("_law_hand", none), "_law_hand", "_law_hand", defArgs s__law_hand, defBody s__law_hand, defScope s__law_hand, [], []⟩
def d__law_draw : He.DefD := ⟨("_law_draw", none), "_law_draw", "_law_draw", defArgs s__law_draw, defBody s__law_draw, defScope s__law_draw, [], []⟩
def d__law_any : He.DefD := ⟨("_law_any", none), "_law_any", "_law_any", defArgs s__law_any, defBody s__law_any, defScope s__law_any, [], []⟩
def d__law_is : He.DefD := ⟨("_law_is", none), "_law_is", "_law_is", defArgs s__law_is, defBody s__law_is, defScope s__law_is, [], []⟩
def d__law_mixed : He.DefD := ⟨("_law_mixed", none), "_law_mixed", "_law_mixed", defArgs s__law_mixed, defBody s__law_mixed, defScope s__law_mixed, [], []⟩
def d__law_parts : He.DefD := ⟨("_law_parts", none), "_law_parts", "_law_parts", defArgs s__law_parts, defBody s__law_parts, defScope s__law_parts, [], []⟩
def d__law_unlike : He.DefD := ⟨("_law_unlike", none), "_law_unlike", "_law_unlike", defArgs s__law_unlike, defBody s__law_unlike, defScope s__law_unlike, [], []⟩
def d__law_plans : He.DefD := ⟨("_law_plans", none), "_law_plans", "_law_plans", defArgs s__law_plans, defBody s__law_plans, defScope s__law_plans, [], []⟩
def d__law_low : He.DefD := ⟨("_law_low", none), "_law_low", "_law_low", defArgs s__law_low, defBody s__law_low, defScope s__law_low, [], []⟩
def d_law : He.DefD := ⟨("law", none), "law", "law", defArgs s_law, defBody s_law, defScope s_law, [], []⟩
def d_Book___init__ : He.DefD := ⟨("Book", some "__init__"), "__init__", "Book.__init__", defArgs s_Book___init__, defBody s_Book___init__, defScope s_Book___init__, [], []⟩
def d_Planner___init__ : He.DefD := ⟨("Planner", some "__init__"), "__init__", "Planner.__init__", defArgs s_Planner___init__, defBody s_Planner___init__, defScope s_Planner___init__, [], []⟩
def d_Planner_narrowed : He.DefD := ⟨("Planner", some "narrowed"), "narrowed", "Planner.narrowed", defArgs s_Planner_narrowed, defBody s_Planner_narrowed, defScope s_Planner_narrowed, [], []⟩
def d_Planner_many : He.DefD := ⟨("Planner", some "many"), "many", "Planner.many", defArgs s_Planner_many, defBody s_Planner_many, defScope s_Planner_many, [], []⟩
def d_Planner_whole : He.DefD := ⟨("Planner", some "whole"), "whole", "Planner.whole", defArgs s_Planner_whole, defBody s_Planner_whole, defScope s_Planner_whole, [], []⟩
def d_Planner_at : He.DefD := ⟨("Planner", some "at"), "at", "Planner.at", defArgs s_Planner_at, defBody s_Planner_at, defScope s_Planner_at, [], []⟩
def d_Planner_with_time : He.DefD := ⟨("Planner", some "with_time"), "with_time", "Planner.with_time", defArgs s_Planner_with_time, defBody s_Planner_with_time, defScope s_Planner_with_time, [], []⟩
def fn : List He.DefD := [d_is_integer, d_is_within, d_is_number, d_is_tuple, d_is_lot, d_lowest, d_is_pair, d_are_overs, d_is_bound, d_is_date, d_is_kind, d_is_window, d_check_window, d_check_small, d_many_plans, d_plan_at, d_plan_chance, d_common, d_reduced, d_plus, d_product, d_planner_for, d_shares_in, d_plan_times, d_plan_mean, d_with_both, d_plan_pair, d_likeliest_plan_time, d__law_hand, d__law_draw, d__law_any, d__law_is, d__law_mixed, d__law_parts, d__law_unlike, d__law_plans, d__law_low, d_law, d_Book___init__, d_Planner___init__, d_Planner_narrowed, d_Planner_many, d_Planner_whole, d_Planner_at, d_Planner_with_time]
structure Al (K : PySem.W.Frag) (mg : Str → Option Value) : Prop where
  says : He.SaysD fa fn K
  hp : ∃ h : Heap, K.In h ∧ h.Ns mainGlobals mg
section
variable {K : PySem.W.Frag} {mg : Str → Option Value}
theorem Al.g_is_integer (A : Al K mg) : mg "is_integer" = some (.ref (He.ga K "is_integer")) := let ⟨_, X, G⟩ := A.hp; He.glo_ok X G (A.says.fact 0 (f := .glo "is_integer") rfl)
theorem Al.g_is_within (A : Al K mg) : mg "is_within" = some (.ref (He.ga K "is_within")) := let ⟨_, X, G⟩ := A.hp; He.glo_ok X G (A.says.fact 1 (f := .glo "is_within") rfl)
theorem Al.g_is_number (A : Al K mg) : mg "is_number" = some (.ref (He.ga K "is_number")) := let ⟨_, X, G⟩ := A.hp; He.glo_ok X G (A.says.fact 2 (f := .glo "is_number") rfl)
theorem Al.g_is_tuple (A : Al K mg) : mg "is_tuple" = some (.ref (He.ga K "is_tuple")) := let ⟨_, X, G⟩ := A.hp; He.glo_ok X G (A.says.fact 3 (f := .glo "is_tuple") rfl)
theorem Al.g_is_lot (A : Al K mg) : mg "is_lot" = some (.ref (He.ga K "is_lot")) := let ⟨_, X, G⟩ := A.hp; He.glo_ok X G (A.says.fact 4 (f := .glo "is_lot") rfl)
theorem Al.g_lowest (A : Al K mg) : mg "lowest" = some (.ref (He.ga K "lowest")) := let ⟨_, X, G⟩ := A.hp; He.glo_ok X G (A.says.fact 5 (f := .glo "lowest") rfl)
theorem Al.g_is_pair (A : Al K mg) : mg "is_pair" = some (.ref (He.ga K "is_pair")) := let ⟨_, X, G⟩ := A.hp; He.glo_ok X G (A.says.fact 6 (f := .glo "is_pair") rfl)
theorem Al.g_are_overs (A : Al K mg) : mg "are_overs" = some (.ref (He.ga K "are_overs")) := let ⟨_, X, G⟩ := A.hp; He.glo_ok X G (A.says.fact 7 (f := .glo "are_overs") rfl)
theorem Al.g_is_bound (A : Al K mg) : mg "is_bound" = some (.ref (He.ga K "is_bound")) := let ⟨_, X, G⟩ := A.hp; He.glo_ok X G (A.says.fact 8 (f := .glo "is_bound") rfl)
theorem Al.g_is_date (A : Al K mg) : mg "is_date" = some (.ref (He.ga K "is_date")) := let ⟨_, X, G⟩ := A.hp; He.glo_ok X G (A.says.fact 9 (f := .glo "is_date") rfl)
theorem Al.g_is_kind (A : Al K mg) : mg "is_kind" = some (.ref (He.ga K "is_kind")) := let ⟨_, X, G⟩ := A.hp; He.glo_ok X G (A.says.fact 10 (f := .glo "is_kind") rfl)
theorem Al.g_is_window (A : Al K mg) : mg "is_window" = some (.ref (He.ga K "is_window")) := let ⟨_, X, G⟩ := A.hp; He.glo_ok X G (A.says.fact 11 (f := .glo "is_window") rfl)
theorem Al.g_check_window (A : Al K mg) : mg "check_window" = some (.ref (He.ga K "check_window")) := let ⟨_, X, G⟩ := A.hp; He.glo_ok X G (A.says.fact 12 (f := .glo "check_window") rfl)
theorem Al.g_check_small (A : Al K mg) : mg "check_small" = some (.ref (He.ga K "check_small")) := let ⟨_, X, G⟩ := A.hp; He.glo_ok X G (A.says.fact 13 (f := .glo "check_small") rfl)
theorem Al.g_many_plans (A : Al K mg) : mg "many_plans" = some (.ref (He.ga K "many_plans")) := let ⟨_, X, G⟩ := A.hp; He.glo_ok X G (A.says.fact 14 (f := .glo "many_plans") rfl)
theorem Al.g_plan_at (A : Al K mg) : mg "plan_at" = some (.ref (He.ga K "plan_at")) := let ⟨_, X, G⟩ := A.hp; He.glo_ok X G (A.says.fact 15 (f := .glo "plan_at") rfl)
theorem Al.g_plan_chance (A : Al K mg) : mg "plan_chance" = some (.ref (He.ga K "plan_chance")) := let ⟨_, X, G⟩ := A.hp; He.glo_ok X G (A.says.fact 16 (f := .glo "plan_chance") rfl)
theorem Al.g_common (A : Al K mg) : mg "common" = some (.ref (He.ga K "common")) := let ⟨_, X, G⟩ := A.hp; He.glo_ok X G (A.says.fact 17 (f := .glo "common") rfl)
theorem Al.g_reduced (A : Al K mg) : mg "reduced" = some (.ref (He.ga K "reduced")) := let ⟨_, X, G⟩ := A.hp; He.glo_ok X G (A.says.fact 18 (f := .glo "reduced") rfl)
theorem Al.g_plus (A : Al K mg) : mg "plus" = some (.ref (He.ga K "plus")) := let ⟨_, X, G⟩ := A.hp; He.glo_ok X G (A.says.fact 19 (f := .glo "plus") rfl)
theorem Al.g_product (A : Al K mg) : mg "product" = some (.ref (He.ga K "product")) := let ⟨_, X, G⟩ := A.hp; He.glo_ok X G (A.says.fact 20 (f := .glo "product") rfl)
theorem Al.g_planner_for (A : Al K mg) : mg "planner_for" = some (.ref (He.ga K "planner_for")) := let ⟨_, X, G⟩ := A.hp; He.glo_ok X G (A.says.fact 21 (f := .glo "planner_for") rfl)
theorem Al.g_shares_in (A : Al K mg) : mg "shares_in" = some (.ref (He.ga K "shares_in")) := let ⟨_, X, G⟩ := A.hp; He.glo_ok X G (A.says.fact 22 (f := .glo "shares_in") rfl)
theorem Al.g_plan_times (A : Al K mg) : mg "plan_times" = some (.ref (He.ga K "plan_times")) := let ⟨_, X, G⟩ := A.hp; He.glo_ok X G (A.says.fact 23 (f := .glo "plan_times") rfl)
theorem Al.g_plan_mean (A : Al K mg) : mg "plan_mean" = some (.ref (He.ga K "plan_mean")) := let ⟨_, X, G⟩ := A.hp; He.glo_ok X G (A.says.fact 24 (f := .glo "plan_mean") rfl)
theorem Al.g_with_both (A : Al K mg) : mg "with_both" = some (.ref (He.ga K "with_both")) := let ⟨_, X, G⟩ := A.hp; He.glo_ok X G (A.says.fact 25 (f := .glo "with_both") rfl)
theorem Al.g_plan_pair (A : Al K mg) : mg "plan_pair" = some (.ref (He.ga K "plan_pair")) := let ⟨_, X, G⟩ := A.hp; He.glo_ok X G (A.says.fact 26 (f := .glo "plan_pair") rfl)
theorem Al.g_likeliest_plan_time (A : Al K mg) : mg "likeliest_plan_time" = some (.ref (He.ga K "likeliest_plan_time")) := let ⟨_, X, G⟩ := A.hp; He.glo_ok X G (A.says.fact 27 (f := .glo "likeliest_plan_time") rfl)
theorem Al.g__law_hand (A : Al K mg) : mg "_law_hand" = some (.ref (He.ga K "_law_hand")) := let ⟨_, X, G⟩ := A.hp; He.glo_ok X G (A.says.fact 28 (f := .glo "_law_hand") rfl)
theorem Al.g__law_draw (A : Al K mg) : mg "_law_draw" = some (.ref (He.ga K "_law_draw")) := let ⟨_, X, G⟩ := A.hp; He.glo_ok X G (A.says.fact 29 (f := .glo "_law_draw") rfl)
theorem Al.g__law_any (A : Al K mg) : mg "_law_any" = some (.ref (He.ga K "_law_any")) := let ⟨_, X, G⟩ := A.hp; He.glo_ok X G (A.says.fact 30 (f := .glo "_law_any") rfl)
theorem Al.g__law_is (A : Al K mg) : mg "_law_is" = some (.ref (He.ga K "_law_is")) := let ⟨_, X, G⟩ := A.hp; He.glo_ok X G (A.says.fact 31 (f := .glo "_law_is") rfl)
theorem Al.g__law_mixed (A : Al K mg) : mg "_law_mixed" = some (.ref (He.ga K "_law_mixed")) := let ⟨_, X, G⟩ := A.hp; He.glo_ok X G (A.says.fact 32 (f := .glo "_law_mixed") rfl)
theorem Al.g__law_parts (A : Al K mg) : mg "_law_parts" = some (.ref (He.ga K "_law_parts")) := let ⟨_, X, G⟩ := A.hp; He.glo_ok X G (A.says.fact 33 (f := .glo "_law_parts") rfl)
theorem Al.g__law_unlike (A : Al K mg) : mg "_law_unlike" = some (.ref (He.ga K "_law_unlike")) := let ⟨_, X, G⟩ := A.hp; He.glo_ok X G (A.says.fact 34 (f := .glo "_law_unlike") rfl)
theorem Al.g__law_plans (A : Al K mg) : mg "_law_plans" = some (.ref (He.ga K "_law_plans")) := let ⟨_, X, G⟩ := A.hp; He.glo_ok X G (A.says.fact 35 (f := .glo "_law_plans") rfl)
theorem Al.g__law_low (A : Al K mg) : mg "_law_low" = some (.ref (He.ga K "_law_low")) := let ⟨_, X, G⟩ := A.hp; He.glo_ok X G (A.says.fact 36 (f := .glo "_law_low") rfl)
theorem Al.g_law (A : Al K mg) : mg "law" = some (.ref (He.ga K "law")) := let ⟨_, X, G⟩ := A.hp; He.glo_ok X G (A.says.fact 37 (f := .glo "law") rfl)
theorem Al.g_Book (A : Al K mg) : mg "Book" = some (.ref (He.ga K "Book")) := let ⟨_, X, G⟩ := A.hp; He.glo_ok X G (A.says.fact 38 (f := .glo "Book") rfl)
theorem Al.g_Planner (A : Al K mg) : mg "Planner" = some (.ref (He.ga K "Planner")) := let ⟨_, X, G⟩ := A.hp; He.glo_ok X G (A.says.fact 39 (f := .glo "Planner") rfl)
theorem Al.c_MOST_LAYERS (A : Al K mg) : ∃ t, mg "MOST_LAYERS" = some (.int 16 t) := let ⟨_, X, G⟩ := A.hp; He.int_ok X G (A.says.fact 40 (f := .int "MOST_LAYERS" 16) rfl)
theorem Al.c_MOST_KINDS (A : Al K mg) : ∃ t, mg "MOST_KINDS" = some (.int 16 t) := let ⟨_, X, G⟩ := A.hp; He.int_ok X G (A.says.fact 41 (f := .int "MOST_KINDS" 16) rfl)
theorem Al.c_FARTHEST (A : Al K mg) : ∃ t, mg "FARTHEST" = some (.int 100000 t) := let ⟨_, X, G⟩ := A.hp; He.int_ok X G (A.says.fact 42 (f := .int "FARTHEST" 100000) rfl)
theorem Al.c_MOST_PLANNED (A : Al K mg) : ∃ t, mg "MOST_PLANNED" = some (.int 10 t) := let ⟨_, X, G⟩ := A.hp; He.int_ok X G (A.says.fact 43 (f := .int "MOST_PLANNED" 10) rfl)
theorem Al.c_FARTHEST_TIME (A : Al K mg) : ∃ t, mg "FARTHEST_TIME" = some (.int 1000 t) := let ⟨_, X, G⟩ := A.hp; He.int_ok X G (A.says.fact 44 (f := .int "FARTHEST_TIME" 1000) rfl)
theorem Al.c_WIDEST (A : Al K mg) : ∃ t, mg "WIDEST" = some (.int 40 t) := let ⟨_, X, G⟩ := A.hp; He.int_ok X G (A.says.fact 45 (f := .int "WIDEST" 40) rfl)
theorem Al.b_abs (A : Al K mg) : mg "abs" = none := let ⟨_, X, G⟩ := A.hp; He.free_ok X G (A.says.fact 46 (f := .free "abs") rfl)
theorem Al.b_all (A : Al K mg) : mg "all" = none := let ⟨_, X, G⟩ := A.hp; He.free_ok X G (A.says.fact 47 (f := .free "all") rfl)
theorem Al.b_any (A : Al K mg) : mg "any" = none := let ⟨_, X, G⟩ := A.hp; He.free_ok X G (A.says.fact 48 (f := .free "any") rfl)
theorem Al.b_bool (A : Al K mg) : mg "bool" = none := let ⟨_, X, G⟩ := A.hp; He.free_ok X G (A.says.fact 49 (f := .free "bool") rfl)
theorem Al.b_enumerate (A : Al K mg) : mg "enumerate" = none := let ⟨_, X, G⟩ := A.hp; He.free_ok X G (A.says.fact 50 (f := .free "enumerate") rfl)
theorem Al.b_int (A : Al K mg) : mg "int" = none := let ⟨_, X, G⟩ := A.hp; He.free_ok X G (A.says.fact 51 (f := .free "int") rfl)
theorem Al.b_isinstance (A : Al K mg) : mg "isinstance" = none := let ⟨_, X, G⟩ := A.hp; He.free_ok X G (A.says.fact 52 (f := .free "isinstance") rfl)
theorem Al.b_len (A : Al K mg) : mg "len" = none := let ⟨_, X, G⟩ := A.hp; He.free_ok X G (A.says.fact 53 (f := .free "len") rfl)
theorem Al.b_list (A : Al K mg) : mg "list" = none := let ⟨_, X, G⟩ := A.hp; He.free_ok X G (A.says.fact 54 (f := .free "list") rfl)
theorem Al.b_max (A : Al K mg) : mg "max" = none := let ⟨_, X, G⟩ := A.hp; He.free_ok X G (A.says.fact 55 (f := .free "max") rfl)
theorem Al.b_min (A : Al K mg) : mg "min" = none := let ⟨_, X, G⟩ := A.hp; He.free_ok X G (A.says.fact 56 (f := .free "min") rfl)
theorem Al.b_range (A : Al K mg) : mg "range" = none := let ⟨_, X, G⟩ := A.hp; He.free_ok X G (A.says.fact 57 (f := .free "range") rfl)
theorem Al.b_repr (A : Al K mg) : mg "repr" = none := let ⟨_, X, G⟩ := A.hp; He.free_ok X G (A.says.fact 58 (f := .free "repr") rfl)
theorem Al.b_sorted (A : Al K mg) : mg "sorted" = none := let ⟨_, X, G⟩ := A.hp; He.free_ok X G (A.says.fact 59 (f := .free "sorted") rfl)
theorem Al.b_str (A : Al K mg) : mg "str" = none := let ⟨_, X, G⟩ := A.hp; He.free_ok X G (A.says.fact 60 (f := .free "str") rfl)
theorem Al.b_sum (A : Al K mg) : mg "sum" = none := let ⟨_, X, G⟩ := A.hp; He.free_ok X G (A.says.fact 61 (f := .free "sum") rfl)
theorem Al.b_tuple (A : Al K mg) : mg "tuple" = none := let ⟨_, X, G⟩ := A.hp; He.free_ok X G (A.says.fact 62 (f := .free "tuple") rfl)
theorem Al.b_zip (A : Al K mg) : mg "zip" = none := let ⟨_, X, G⟩ := A.hp; He.free_ok X G (A.says.fact 63 (f := .free "zip") rfl)
theorem Al.cls_Book (A : Al K mg) : Cls K (He.ga K "Book") := He.cls_ok (A.says.fact 64 (f := .cls "Book") rfl)
theorem Al.mk_Book (A : Al K mg) : Mk K (He.ga K "Book") (He.ma K (He.ga K "Book") "__init__") := He.mkr_ok (A.says.fact 65 (f := .mkr "Book") rfl)
theorem Al.na_Book_looked (A : Al K mg) : NoAttr K (He.ga K "Book") "looked" := He.noat_ok (A.says.fact 66 (f := .noat "Book" "looked") rfl)
theorem Al.na_Book_count (A : Al K mg) : NoAttr K (He.ga K "Book") "count" := He.noat_ok (A.says.fact 67 (f := .noat "Book" "count") rfl)
theorem Al.na_Book_overs (A : Al K mg) : NoAttr K (He.ga K "Book") "overs" := He.noat_ok (A.says.fact 68 (f := .noat "Book" "overs") rfl)
theorem Al.na_Book_dates (A : Al K mg) : NoAttr K (He.ga K "Book") "dates" := He.noat_ok (A.says.fact 69 (f := .noat "Book" "dates") rfl)
theorem Al.na_Book_kinds (A : Al K mg) : NoAttr K (He.ga K "Book") "kinds" := He.noat_ok (A.says.fact 70 (f := .noat "Book" "kinds") rfl)
theorem Al.cls_Planner (A : Al K mg) : Cls K (He.ga K "Planner") := He.cls_ok (A.says.fact 71 (f := .cls "Planner") rfl)
theorem Al.mk_Planner (A : Al K mg) : Mk K (He.ga K "Planner") (He.ma K (He.ga K "Planner") "__init__") := He.mkr_ok (A.says.fact 72 (f := .mkr "Planner") rfl)
theorem Al.na_Planner_bounds (A : Al K mg) : NoAttr K (He.ga K "Planner") "bounds" := He.noat_ok (A.says.fact 73 (f := .noat "Planner" "bounds") rfl)
theorem Al.na_Planner_known (A : Al K mg) : NoAttr K (He.ga K "Planner") "known" := He.noat_ok (A.says.fact 74 (f := .noat "Planner" "known") rfl)
theorem Al.na_Planner_book (A : Al K mg) : NoAttr K (He.ga K "Planner") "book" := He.noat_ok (A.says.fact 75 (f := .noat "Planner" "book") rfl)
theorem Al.na_Planner_strict (A : Al K mg) : NoAttr K (He.ga K "Planner") "strict" := He.noat_ok (A.says.fact 76 (f := .noat "Planner" "strict") rfl)
theorem Al.m_Planner_narrowed (A : Al K mg) : Meth K (He.ga K "Planner") "narrowed" (He.ma K (He.ga K "Planner") "narrowed") := He.meth_ok (A.says.fact 77 (f := .meth "Planner" "narrowed") rfl)
theorem Al.m_Planner_many (A : Al K mg) : Meth K (He.ga K "Planner") "many" (He.ma K (He.ga K "Planner") "many") := He.meth_ok (A.says.fact 78 (f := .meth "Planner" "many") rfl)
theorem Al.m_Planner_whole (A : Al K mg) : Meth K (He.ga K "Planner") "whole" (He.ma K (He.ga K "Planner") "whole") := He.meth_ok (A.says.fact 79 (f := .meth "Planner" "whole") rfl)
theorem Al.m_Planner_at (A : Al K mg) : Meth K (He.ga K "Planner") "at" (He.ma K (He.ga K "Planner") "at") := He.meth_ok (A.says.fact 80 (f := .meth "Planner" "at") rfl)
theorem Al.m_Planner_with_time (A : Al K mg) : Meth K (He.ga K "Planner") "with_time" (He.ma K (He.ga K "Planner") "with_time") := He.meth_ok (A.says.fact 81 (f := .meth "Planner" "with_time") rfl)
theorem fu_is_integer (A : Al K mg) : ∃ f fd, FunD K "is_integer" "is_integer" (defArgs s_is_integer) (defBody s_is_integer) (defScope s_is_integer) [] [] f fd ∧ mg "is_integer" = some (.ref f) ∧ Binds K fd ["thing"] [] := by
  obtain ⟨fd, F⟩ := A.says.def_ 0 (d := d_is_integer) rfl
  exact ⟨_, fd, F, A.g_is_integer, FunD.bindsN F fun _ _ _ _ _ _ us hl => match us, hl with | [_], _ => rfl⟩
theorem fu_is_within (A : Al K mg) : ∃ f fd, FunD K "is_within" "is_within" (defArgs s_is_within) (defBody s_is_within) (defScope s_is_within) [] [] f fd ∧ mg "is_within" = some (.ref f) ∧ Binds K fd ["thing", "low", "high"] [] := by
  obtain ⟨fd, F⟩ := A.says.def_ 1 (d := d_is_within) rfl
  exact ⟨_, fd, F, A.g_is_within, FunD.bindsN F fun _ _ _ _ _ _ us hl => match us, hl with | [_, _, _], _ => rfl⟩
theorem fu_is_number (A : Al K mg) : ∃ f fd, FunD K "is_number" "is_number" (defArgs s_is_number) (defBody s_is_number) (defScope s_is_number) [] [] f fd ∧ mg "is_number" = some (.ref f) ∧ Binds K fd ["thing"] [] := by
  obtain ⟨fd, F⟩ := A.says.def_ 2 (d := d_is_number) rfl
  exact ⟨_, fd, F, A.g_is_number, FunD.bindsN F fun _ _ _ _ _ _ us hl => match us, hl with | [_], _ => rfl⟩
theorem fu_is_tuple (A : Al K mg) : ∃ f fd, FunD K "is_tuple" "is_tuple" (defArgs s_is_tuple) (defBody s_is_tuple) (defScope s_is_tuple) [] [] f fd ∧ mg "is_tuple" = some (.ref f) ∧ Binds K fd ["thing", "least", "most"] [] := by
  obtain ⟨fd, F⟩ := A.says.def_ 3 (d := d_is_tuple) rfl
  exact ⟨_, fd, F, A.g_is_tuple, FunD.bindsN F fun _ _ _ _ _ _ us hl => match us, hl with | [_, _, _], _ => rfl⟩
theorem fu_is_lot (A : Al K mg) : ∃ f fd, FunD K "is_lot" "is_lot" (defArgs s_is_lot) (defBody s_is_lot) (defScope s_is_lot) [] [] f fd ∧ mg "is_lot" = some (.ref f) ∧ Binds K fd ["thing", "many"] [] := by
  obtain ⟨fd, F⟩ := A.says.def_ 4 (d := d_is_lot) rfl
  exact ⟨_, fd, F, A.g_is_lot, FunD.bindsN F fun _ _ _ _ _ _ us hl => match us, hl with | [_, _], _ => rfl⟩
theorem fu_lowest (A : Al K mg) : ∃ f fd, FunD K "lowest" "lowest" (defArgs s_lowest) (defBody s_lowest) (defScope s_lowest) [] [] f fd ∧ mg "lowest" = some (.ref f) ∧ Binds K fd ["top", "bottom"] [] := by
  obtain ⟨fd, F⟩ := A.says.def_ 5 (d := d_lowest) rfl
  exact ⟨_, fd, F, A.g_lowest, FunD.bindsN F fun _ _ _ _ _ _ us hl => match us, hl with | [_, _], _ => rfl⟩
theorem fu_is_pair (A : Al K mg) : ∃ f fd, FunD K "is_pair" "is_pair" (defArgs s_is_pair) (defBody s_is_pair) (defScope s_is_pair) [] [] f fd ∧ mg "is_pair" = some (.ref f) ∧ Binds K fd ["count", "thing"] [] := by
  obtain ⟨fd, F⟩ := A.says.def_ 6 (d := d_is_pair) rfl
  exact ⟨_, fd, F, A.g_is_pair, FunD.bindsN F fun _ _ _ _ _ _ us hl => match us, hl with | [_, _], _ => rfl⟩
theorem fu_are_overs (A : Al K mg) : ∃ f fd, FunD K "are_overs" "are_overs" (defArgs s_are_overs) (defBody s_are_overs) (defScope s_are_overs) [] [] f fd ∧ mg "are_overs" = some (.ref f) ∧ Binds K fd ["count", "thing"] [] := by
  obtain ⟨fd, F⟩ := A.says.def_ 7 (d := d_are_overs) rfl
  exact ⟨_, fd, F, A.g_are_overs, FunD.bindsN F fun _ _ _ _ _ _ us hl => match us, hl with | [_, _], _ => rfl⟩
theorem fu_is_bound (A : Al K mg) : ∃ f fd, FunD K "is_bound" "is_bound" (defArgs s_is_bound) (defBody s_is_bound) (defScope s_is_bound) [] [] f fd ∧ mg "is_bound" = some (.ref f) ∧ Binds K fd ["thing"] [] := by
  obtain ⟨fd, F⟩ := A.says.def_ 8 (d := d_is_bound) rfl
  exact ⟨_, fd, F, A.g_is_bound, FunD.bindsN F fun _ _ _ _ _ _ us hl => match us, hl with | [_], _ => rfl⟩
theorem fu_is_date (A : Al K mg) : ∃ f fd, FunD K "is_date" "is_date" (defArgs s_is_date) (defBody s_is_date) (defScope s_is_date) [] [] f fd ∧ mg "is_date" = some (.ref f) ∧ Binds K fd ["thing"] [] := by
  obtain ⟨fd, F⟩ := A.says.def_ 9 (d := d_is_date) rfl
  exact ⟨_, fd, F, A.g_is_date, FunD.bindsN F fun _ _ _ _ _ _ us hl => match us, hl with | [_], _ => rfl⟩
theorem fu_is_kind (A : Al K mg) : ∃ f fd, FunD K "is_kind" "is_kind" (defArgs s_is_kind) (defBody s_is_kind) (defScope s_is_kind) [] [] f fd ∧ mg "is_kind" = some (.ref f) ∧ Binds K fd ["count", "thing"] [] := by
  obtain ⟨fd, F⟩ := A.says.def_ 10 (d := d_is_kind) rfl
  exact ⟨_, fd, F, A.g_is_kind, FunD.bindsN F fun _ _ _ _ _ _ us hl => match us, hl with | [_, _], _ => rfl⟩
theorem fu_is_window (A : Al K mg) : ∃ f fd, FunD K "is_window" "is_window" (defArgs s_is_window) (defBody s_is_window) (defScope s_is_window) [] [] f fd ∧ mg "is_window" = some (.ref f) ∧ Binds K fd ["thing"] [] := by
  obtain ⟨fd, F⟩ := A.says.def_ 11 (d := d_is_window) rfl
  exact ⟨_, fd, F, A.g_is_window, FunD.bindsN F fun _ _ _ _ _ _ us hl => match us, hl with | [_], _ => rfl⟩
theorem fu_check_window (A : Al K mg) : ∃ f fd, FunD K "check_window" "check_window" (defArgs s_check_window) (defBody s_check_window) (defScope s_check_window) [] [] f fd ∧ mg "check_window" = some (.ref f) ∧ Binds K fd ["window", "strict"] [] := by
  obtain ⟨fd, F⟩ := A.says.def_ 12 (d := d_check_window) rfl
  exact ⟨_, fd, F, A.g_check_window, FunD.bindsN F fun _ _ _ _ _ _ us hl => match us, hl with | [_, _], _ => rfl⟩
theorem fu_check_small (A : Al K mg) : ∃ f fd, FunD K "check_small" "check_small" (defArgs s_check_small) (defBody s_check_small) (defScope s_check_small) [] [] f fd ∧ mg "check_small" = some (.ref f) ∧ Binds K fd ["book"] [] := by
  obtain ⟨fd, F⟩ := A.says.def_ 13 (d := d_check_small) rfl
  exact ⟨_, fd, F, A.g_check_small, FunD.bindsN F fun _ _ _ _ _ _ us hl => match us, hl with | [_], _ => rfl⟩
theorem fu_many_plans (A : Al K mg) : ∃ f fd, FunD K "many_plans" "many_plans" (defArgs s_many_plans) (defBody s_many_plans) (defScope s_many_plans) [] [] f fd ∧ mg "many_plans" = some (.ref f) ∧ Binds K fd ["book", "window", "strict"] [] := by
  obtain ⟨fd, F⟩ := A.says.def_ 14 (d := d_many_plans) rfl
  exact ⟨_, fd, F, A.g_many_plans, FunD.bindsN F fun _ _ _ _ _ _ us hl => match us, hl with | [_, _, _], _ => rfl⟩
theorem fu_plan_at (A : Al K mg) : ∃ f fd, FunD K "plan_at" "plan_at" (defArgs s_plan_at) (defBody s_plan_at) (defScope s_plan_at) [] [] f fd ∧ mg "plan_at" = some (.ref f) ∧ Binds K fd ["book", "window", "strict", "number"] [] := by
  obtain ⟨fd, F⟩ := A.says.def_ 15 (d := d_plan_at) rfl
  exact ⟨_, fd, F, A.g_plan_at, FunD.bindsN F fun _ _ _ _ _ _ us hl => match us, hl with | [_, _, _, _], _ => rfl⟩
theorem fu_plan_chance (A : Al K mg) : ∃ f fd, FunD K "plan_chance" "plan_chance" (defArgs s_plan_chance) (defBody s_plan_chance) (defScope s_plan_chance) [] [] f fd ∧ mg "plan_chance" = some (.ref f) ∧ Binds K fd ["book", "window", "strict", "a", "time"] [] := by
  obtain ⟨fd, F⟩ := A.says.def_ 16 (d := d_plan_chance) rfl
  exact ⟨_, fd, F, A.g_plan_chance, FunD.bindsN F fun _ _ _ _ _ _ us hl => match us, hl with | [_, _, _, _, _], _ => rfl⟩
theorem fu_common (A : Al K mg) : ∃ f fd, FunD K "common" "common" (defArgs s_common) (defBody s_common) (defScope s_common) [] [] f fd ∧ mg "common" = some (.ref f) ∧ Binds K fd ["one", "other"] [] := by
  obtain ⟨fd, F⟩ := A.says.def_ 17 (d := d_common) rfl
  exact ⟨_, fd, F, A.g_common, FunD.bindsN F fun _ _ _ _ _ _ us hl => match us, hl with | [_, _], _ => rfl⟩
theorem fu_reduced (A : Al K mg) : ∃ f fd, FunD K "reduced" "reduced" (defArgs s_reduced) (defBody s_reduced) (defScope s_reduced) [] [] f fd ∧ mg "reduced" = some (.ref f) ∧ Binds K fd ["top", "bottom"] [] := by
  obtain ⟨fd, F⟩ := A.says.def_ 18 (d := d_reduced) rfl
  exact ⟨_, fd, F, A.g_reduced, FunD.bindsN F fun _ _ _ _ _ _ us hl => match us, hl with | [_, _], _ => rfl⟩
theorem fu_plus (A : Al K mg) : ∃ f fd, FunD K "plus" "plus" (defArgs s_plus) (defBody s_plus) (defScope s_plus) [] [] f fd ∧ mg "plus" = some (.ref f) ∧ Binds K fd ["one", "other"] [] := by
  obtain ⟨fd, F⟩ := A.says.def_ 19 (d := d_plus) rfl
  exact ⟨_, fd, F, A.g_plus, FunD.bindsN F fun _ _ _ _ _ _ us hl => match us, hl with | [_, _], _ => rfl⟩
theorem fu_product (A : Al K mg) : ∃ f fd, FunD K "product" "product" (defArgs s_product) (defBody s_product) (defScope s_product) [] [] f fd ∧ mg "product" = some (.ref f) ∧ Binds K fd ["one", "other"] [] := by
  obtain ⟨fd, F⟩ := A.says.def_ 20 (d := d_product) rfl
  exact ⟨_, fd, F, A.g_product, FunD.bindsN F fun _ _ _ _ _ _ us hl => match us, hl with | [_, _], _ => rfl⟩
theorem fu_planner_for (A : Al K mg) : ∃ f fd, FunD K "planner_for" "planner_for" (defArgs s_planner_for) (defBody s_planner_for) (defScope s_planner_for) [] [] f fd ∧ mg "planner_for" = some (.ref f) ∧ Binds K fd ["book", "window", "strict", "layers"] [] := by
  obtain ⟨fd, F⟩ := A.says.def_ 21 (d := d_planner_for) rfl
  exact ⟨_, fd, F, A.g_planner_for, FunD.bindsN F fun _ _ _ _ _ _ us hl => match us, hl with | [_, _, _, _], _ => rfl⟩
theorem fu_shares_in (A : Al K mg) : ∃ f fd, FunD K "shares_in" "shares_in" (defArgs s_shares_in) (defBody s_shares_in) (defScope s_shares_in) [] [] f fd ∧ mg "shares_in" = some (.ref f) ∧ Binds K fd ["planner", "window", "a"] [] := by
  obtain ⟨fd, F⟩ := A.says.def_ 22 (d := d_shares_in) rfl
  exact ⟨_, fd, F, A.g_shares_in, FunD.bindsN F fun _ _ _ _ _ _ us hl => match us, hl with | [_, _, _], _ => rfl⟩
theorem fu_plan_times (A : Al K mg) : ∃ f fd, FunD K "plan_times" "plan_times" (defArgs s_plan_times) (defBody s_plan_times) (defScope s_plan_times) [] [] f fd ∧ mg "plan_times" = some (.ref f) ∧ Binds K fd ["book", "window", "strict", "a"] [] := by
  obtain ⟨fd, F⟩ := A.says.def_ 23 (d := d_plan_times) rfl
  exact ⟨_, fd, F, A.g_plan_times, FunD.bindsN F fun _ _ _ _ _ _ us hl => match us, hl with | [_, _, _, _], _ => rfl⟩
theorem fu_plan_mean (A : Al K mg) : ∃ f fd, FunD K "plan_mean" "plan_mean" (defArgs s_plan_mean) (defBody s_plan_mean) (defScope s_plan_mean) [] [] f fd ∧ mg "plan_mean" = some (.ref f) ∧ Binds K fd ["book", "window", "strict", "a"] [] := by
  obtain ⟨fd, F⟩ := A.says.def_ 24 (d := d_plan_mean) rfl
  exact ⟨_, fd, F, A.g_plan_mean, FunD.bindsN F fun _ _ _ _ _ _ us hl => match us, hl with | [_, _, _, _], _ => rfl⟩
theorem fu_with_both (A : Al K mg) : ∃ f fd, FunD K "with_both" "with_both" (defArgs s_with_both) (defBody s_with_both) (defScope s_with_both) [] [] f fd ∧ mg "with_both" = some (.ref f) ∧ Binds K fd ["planner", "a", "time", "b", "other"] [] := by
  obtain ⟨fd, F⟩ := A.says.def_ 25 (d := d_with_both) rfl
  exact ⟨_, fd, F, A.g_with_both, FunD.bindsN F fun _ _ _ _ _ _ us hl => match us, hl with | [_, _, _, _, _], _ => rfl⟩
theorem fu_plan_pair (A : Al K mg) : ∃ f fd, FunD K "plan_pair" "plan_pair" (defArgs s_plan_pair) (defBody s_plan_pair) (defScope s_plan_pair) [] [] f fd ∧ mg "plan_pair" = some (.ref f) ∧ Binds K fd ["book", "window", "strict", "a", "b"] [] := by
  obtain ⟨fd, F⟩ := A.says.def_ 26 (d := d_plan_pair) rfl
  exact ⟨_, fd, F, A.g_plan_pair, FunD.bindsN F fun _ _ _ _ _ _ us hl => match us, hl with | [_, _, _, _, _], _ => rfl⟩
theorem fu_likeliest_plan_time (A : Al K mg) : ∃ f fd, FunD K "likeliest_plan_time" "likeliest_plan_time" (defArgs s_likeliest_plan_time) (defBody s_likeliest_plan_time) (defScope s_likeliest_plan_time) [] [] f fd ∧ mg "likeliest_plan_time" = some (.ref f) ∧ Binds K fd ["book", "window", "strict", "a"] [] := by
  obtain ⟨fd, F⟩ := A.says.def_ 27 (d := d_likeliest_plan_time) rfl
  exact ⟨_, fd, F, A.g_likeliest_plan_time, FunD.bindsN F fun _ _ _ _ _ _ us hl => match us, hl with | [_, _, _, _], _ => rfl⟩
theorem fu__law_hand (A : Al K mg) : ∃ f fd, FunD K "_law_hand" "_law_hand" (defArgs s__law_hand) (defBody s__law_hand) (defScope s__law_hand) [] [] f fd ∧ mg "_law_hand" = some (.ref f) ∧ Binds K fd ["script"] [] := by
  obtain ⟨fd, F⟩ := A.says.def_ 28 (d := d__law_hand) rfl
  exact ⟨_, fd, F, A.g__law_hand, FunD.bindsN F fun _ _ _ _ _ _ us hl => match us, hl with | [_], _ => rfl⟩
theorem fu__law_draw (A : Al K mg) : ∃ f fd, FunD K "_law_draw" "_law_draw" (defArgs s__law_draw) (defBody s__law_draw) (defScope s__law_draw) [] [] f fd ∧ mg "_law_draw" = some (.ref f) ∧ Binds K fd ["hand", "sides"] [] := by
  obtain ⟨fd, F⟩ := A.says.def_ 29 (d := d__law_draw) rfl
  exact ⟨_, fd, F, A.g__law_draw, FunD.bindsN F fun _ _ _ _ _ _ us hl => match us, hl with | [_, _], _ => rfl⟩
theorem fu__law_any (A : Al K mg) : ∃ f fd, FunD K "_law_any" "_law_any" (defArgs s__law_any) (defBody s__law_any) (defScope s__law_any) [] [] f fd ∧ mg "_law_any" = some (.ref f) ∧ Binds K fd ["hand", "things"] [] := by
  obtain ⟨fd, F⟩ := A.says.def_ 30 (d := d__law_any) rfl
  exact ⟨_, fd, F, A.g__law_any, FunD.bindsN F fun _ _ _ _ _ _ us hl => match us, hl with | [_, _], _ => rfl⟩
theorem fu__law_is (A : Al K mg) : ∃ f fd, FunD K "_law_is" "_law_is" (defArgs s__law_is) (defBody s__law_is) (defScope s__law_is) [] [] f fd ∧ mg "_law_is" = some (.ref f) ∧ Binds K fd ["told", "due"] [] := by
  obtain ⟨fd, F⟩ := A.says.def_ 31 (d := d__law_is) rfl
  exact ⟨_, fd, F, A.g__law_is, FunD.bindsN F fun _ _ _ _ _ _ us hl => match us, hl with | [_, _], _ => rfl⟩
theorem fu__law_mixed (A : Al K mg) : ∃ f fd, FunD K "_law_mixed" "_law_mixed" (defArgs s__law_mixed) (defBody s__law_mixed) (defScope s__law_mixed) [] [] f fd ∧ mg "_law_mixed" = some (.ref f) ∧ Binds K fd ["hand", "size"] [] := by
  obtain ⟨fd, F⟩ := A.says.def_ 32 (d := d__law_mixed) rfl
  exact ⟨_, fd, F, A.g__law_mixed, FunD.bindsN F fun _ _ _ _ _ _ us hl => match us, hl with | [_, _], _ => rfl⟩
theorem fu__law_parts (A : Al K mg) : ∃ f fd, FunD K "_law_parts" "_law_parts" (defArgs s__law_parts) (defBody s__law_parts) (defScope s__law_parts) [] [] f fd ∧ mg "_law_parts" = some (.ref f) ∧ Binds K fd ["hand", "least", "most", "has_dates", "has_kinds"] [] := by
  obtain ⟨fd, F⟩ := A.says.def_ 33 (d := d__law_parts) rfl
  exact ⟨_, fd, F, A.g__law_parts, FunD.bindsN F fun _ _ _ _ _ _ us hl => match us, hl with | [_, _, _, _, _], _ => rfl⟩
theorem fu__law_unlike (A : Al K mg) : ∃ f fd, FunD K "_law_unlike" "_law_unlike" (defArgs s__law_unlike) (defBody s__law_unlike) (defScope s__law_unlike) [] [] f fd ∧ mg "_law_unlike" = some (.ref f) ∧ Binds K fd ["one", "other"] [] := by
  obtain ⟨fd, F⟩ := A.says.def_ 34 (d := d__law_unlike) rfl
  exact ⟨_, fd, F, A.g__law_unlike, FunD.bindsN F fun _ _ _ _ _ _ us hl => match us, hl with | [_, _], _ => rfl⟩
theorem fu__law_plans (A : Al K mg) : ∃ f fd, FunD K "_law_plans" "_law_plans" (defArgs s__law_plans) (defBody s__law_plans) (defScope s__law_plans) [] [] f fd ∧ mg "_law_plans" = some (.ref f) ∧ Binds K fd ["parts", "window", "strict"] [] := by
  obtain ⟨fd, F⟩ := A.says.def_ 35 (d := d__law_plans) rfl
  exact ⟨_, fd, F, A.g__law_plans, FunD.bindsN F fun _ _ _ _ _ _ us hl => match us, hl with | [_, _, _], _ => rfl⟩
theorem fu__law_low (A : Al K mg) : ∃ f fd, FunD K "_law_low" "_law_low" (defArgs s__law_low) (defBody s__law_low) (defScope s__law_low) [] [] f fd ∧ mg "_law_low" = some (.ref f) ∧ Binds K fd ["top", "bottom"] [] := by
  obtain ⟨fd, F⟩ := A.says.def_ 36 (d := d__law_low) rfl
  exact ⟨_, fd, F, A.g__law_low, FunD.bindsN F fun _ _ _ _ _ _ us hl => match us, hl with | [_, _], _ => rfl⟩
theorem fu_law (A : Al K mg) : ∃ f fd, FunD K "law" "law" (defArgs s_law) (defBody s_law) (defScope s_law) [] [] f fd ∧ mg "law" = some (.ref f) ∧ Binds K fd ["script"] [] := by
  obtain ⟨fd, F⟩ := A.says.def_ 37 (d := d_law) rfl
  exact ⟨_, fd, F, A.g_law, FunD.bindsN F fun _ _ _ _ _ _ us hl => match us, hl with | [_], _ => rfl⟩
theorem fu_Book___init__ (A : Al K mg) : ∃ fd, FunD K "__init__" "Book.__init__" (defArgs s_Book___init__) (defBody s_Book___init__) (defScope s_Book___init__) [] [] (He.ma K (He.ga K "Book") "__init__") fd ∧ Binds K fd ["self", "count", "overs", "dates", "kinds"] [] := by
  obtain ⟨fd, F⟩ := A.says.def_ 38 (d := d_Book___init__) rfl
  exact ⟨fd, F, FunD.bindsN F fun _ _ _ _ _ _ us hl => match us, hl with | [_, _, _, _, _], _ => rfl⟩
theorem fu_Planner___init__ (A : Al K mg) : ∃ fd, FunD K "__init__" "Planner.__init__" (defArgs s_Planner___init__) (defBody s_Planner___init__) (defScope s_Planner___init__) [] [] (He.ma K (He.ga K "Planner") "__init__") fd ∧ Binds K fd ["self", "book", "window", "strict"] [] := by
  obtain ⟨fd, F⟩ := A.says.def_ 39 (d := d_Planner___init__) rfl
  exact ⟨fd, F, FunD.bindsN F fun _ _ _ _ _ _ us hl => match us, hl with | [_, _, _, _], _ => rfl⟩
theorem fu_Planner_narrowed (A : Al K mg) : ∃ fd, FunD K "narrowed" "Planner.narrowed" (defArgs s_Planner_narrowed) (defBody s_Planner_narrowed) (defScope s_Planner_narrowed) [] [] (He.ma K (He.ga K "Planner") "narrowed") fd ∧ Binds K fd ["self", "bounds", "layer", "time"] [] := by
  obtain ⟨fd, F⟩ := A.says.def_ 40 (d := d_Planner_narrowed) rfl
  exact ⟨fd, F, FunD.bindsN F fun _ _ _ _ _ _ us hl => match us, hl with | [_, _, _, _], _ => rfl⟩
theorem fu_Planner_many (A : Al K mg) : ∃ fd, FunD K "many" "Planner.many" (defArgs s_Planner_many) (defBody s_Planner_many) (defScope s_Planner_many) [] [] (He.ma K (He.ga K "Planner") "many") fd ∧ Binds K fd ["self", "bounds", "first"] [] := by
  obtain ⟨fd, F⟩ := A.says.def_ 41 (d := d_Planner_many) rfl
  exact ⟨fd, F, FunD.bindsN F fun _ _ _ _ _ _ us hl => match us, hl with | [_, _, _], _ => rfl⟩
theorem fu_Planner_whole (A : Al K mg) : ∃ fd, FunD K "whole" "Planner.whole" (defArgs s_Planner_whole) (defBody s_Planner_whole) (defScope s_Planner_whole) [] [] (He.ma K (He.ga K "Planner") "whole") fd ∧ Binds K fd ["self"] [] := by
  obtain ⟨fd, F⟩ := A.says.def_ 42 (d := d_Planner_whole) rfl
  exact ⟨fd, F, FunD.bindsN F fun _ _ _ _ _ _ us hl => match us, hl with | [_], _ => rfl⟩
theorem fu_Planner_at (A : Al K mg) : ∃ fd, FunD K "at" "Planner.at" (defArgs s_Planner_at) (defBody s_Planner_at) (defScope s_Planner_at) [] [] (He.ma K (He.ga K "Planner") "at") fd ∧ Binds K fd ["self", "number"] [] := by
  obtain ⟨fd, F⟩ := A.says.def_ 43 (d := d_Planner_at) rfl
  exact ⟨fd, F, FunD.bindsN F fun _ _ _ _ _ _ us hl => match us, hl with | [_, _], _ => rfl⟩
theorem fu_Planner_with_time (A : Al K mg) : ∃ fd, FunD K "with_time" "Planner.with_time" (defArgs s_Planner_with_time) (defBody s_Planner_with_time) (defScope s_Planner_with_time) [] [] (He.ma K (He.ga K "Planner") "with_time") fd ∧ Binds K fd ["self", "layer", "time"] [] := by
  obtain ⟨fd, F⟩ := A.says.def_ 44 (d := d_Planner_with_time) rfl
  exact ⟨fd, F, FunD.bindsN F fun _ _ _ _ _ _ us hl => match us, hl with | [_, _, _], _ => rfl⟩
end
local macro_rules | `(tactic| simp! [$ts,*]) => `(tactic| simp only [wSeq, wNext, wIfS, wAsg, wRet, wRetN, wDrop, wOp, wUn, wgSub, wBM, z_tyd_lst,  wCB, wCons, wNil, wVar, wVarF, wC, wgName, wTe, wAnd, wOr, DL.wNot, wAndV, wOrV, wNotV, wIf, wCh, wEq, wNe, wIsi, wIsi2, wCall, wNever, wTup, wLst, wSl, wNoPart, wPart, wYes, endD, startR, newL_f, newL_t, List.map, List.length, List.length_cons, List.length_nil, List.getElem?_cons_zero, List.getElem?_cons_succ, List.set_cons_zero, List.set_cons_succ, List.cons_append, List.nil_append, List.append_nil, List.replicate, Nat.reduceSub, Nat.reduceAdd, Option.some.injEq, ex_some_iff, ex_bl_iff, ex_int_iff, ex_tup_iff, exists_eq_left', true_and, and_true, rd_non, rd_bl, rd_int, rd_str, rd_tup, rd_lst, pl_int, pl_bl, pl_non, pl_tup, pl_lst, pl_str, isNon_int, isNon_bl, isNon_non, isNon_tup, isNon_str, isNon_ref, isNon_lst, okD_int, okD_bl, okD_non, eqD_int, eqD_bl, eqD_non, eqD_str, flat_str, flat_non, flat_bl, inD_nil, inD_cons, wFld, wFldS, wMeth, wMethS, wOpO, wIsO, wBMT, List.all_cons, List.all_nil, Bool.and_true, Bool.true_and, Bool.false_eq_true, if_true, if_false, ite_true, ite_false, Bool.not_true, Bool.not_false, D.int.injEq, D.tup.injEq, D.wtup.injEq, false_or, or_false, D.lst.injEq, D.ref.injEq, D.bl.injEq, MO.lst.injEq, List.cons.injEq, reduceCtorEq, false_and, and_false, exists_const, and_assoc, exists_and_left, exists_eq_left, wLc, wiSeq, wipeR, id, wiEnum, wiZip, wiRng1, wiRng2, wgTup, lenOk, wgCons, wgNil, wFor, wLstRg1, wTupRg1, wLstRg2, wNSetD, wNGetD, z_in_lst, z_in_tup, flat_int, flat_ints, inD_ints, wRev, wDic0, wExtend,  z_ix_0, z_ixt_0, z_ix_1, z_ixt_1, z_ix_2, z_ixt_2, z_ix_3, z_ixt_3, z_ix_4, z_ixt_4, z_ix_5, z_ixt_5, z_ix_6, z_ixt_6, z_ix_7, z_ixt_7, z_ix_8, z_ixt_8, z_add_int, z_add_tup, z_add_lst, z_add_str, z_mul_int, z_mul_tup, z_mul_lst, z_ib_int, z_ii_int, z_neg_int, z_len_lst, z_len_tup, z_len_str, z_abs_int, z_int_int, z_cii_int, z_tuple_lst, z_tuple_tup, z_list_lst, z_list_tup, z_cut_lst, z_cut_tup, z_rev_lst, z_rev_tup, z_isN_, z_notN_, z_isB_, z_notB_, z_w1_, z_w2_, z_in_lst, z_in_tup, z_isK_int_int, z_isK_int_bl, z_isK_int_str, z_isK_int_tup, z_isK_int_lst, z_isK_int_dic, z_isK_int_non, z_isK_bool_int, z_isK_bool_bl, z_isK_bool_str, z_isK_bool_tup, z_isK_bool_lst, z_isK_bool_dic, z_isK_bool_non, z_isK_str_int, z_isK_str_bl, z_isK_str_str, z_isK_str_tup, z_isK_str_lst, z_isK_str_dic, z_isK_str_non, z_isK_tuple_int, z_isK_tuple_bl, z_isK_tuple_str, z_isK_tuple_tup, z_isK_tuple_lst, z_isK_tuple_dic, z_isK_tuple_non, z_isK_list_int, z_isK_list_bl, z_isK_list_str, z_isK_list_tup, z_isK_list_lst, z_isK_list_dic, z_isK_list_non, z_isK_dict_int, z_isK_dict_bl, z_isK_dict_str, z_isK_dict_tup, z_isK_dict_lst, z_isK_dict_dic, z_isK_dict_non, z_items_lst, z_items_tup, wDicN, lookD, rd_obj, wDPut, eq_self, decide_true, decide_false, Bool.or_false, Bool.false_or, Bool.or_true, Bool.true_or, Bool.false_and, Bool.and_false, $ts,*])
local macro_rules | `(tactic| simp! [$ts,*] at $h) => `(tactic| simp only [wSeq, wNext, wIfS, wAsg, wRet, wRetN, wDrop, wOp, wUn, wgSub, wBM, z_tyd_lst,  wCB, wCons, wNil, wVar, wVarF, wC, wgName, wTe, wAnd, wOr, DL.wNot, wAndV, wOrV, wNotV, wIf, wCh, wEq, wNe, wIsi, wIsi2, wCall, wNever, wTup, wLst, wSl, wNoPart, wPart, wYes, endD, startR, newL_f, newL_t, List.map, List.length, List.length_cons, List.length_nil, List.getElem?_cons_zero, List.getElem?_cons_succ, List.set_cons_zero, List.set_cons_succ, List.cons_append, List.nil_append, List.append_nil, List.replicate, Nat.reduceSub, Nat.reduceAdd, Option.some.injEq, ex_some_iff, ex_bl_iff, ex_int_iff, ex_tup_iff, exists_eq_left', true_and, and_true, rd_non, rd_bl, rd_int, rd_str, rd_tup, rd_lst, pl_int, pl_bl, pl_non, pl_tup, pl_lst, pl_str, isNon_int, isNon_bl, isNon_non, isNon_tup, isNon_str, isNon_ref, isNon_lst, okD_int, okD_bl, okD_non, eqD_int, eqD_bl, eqD_non, eqD_str, flat_str, flat_non, flat_bl, inD_nil, inD_cons, wFld, wFldS, wMeth, wMethS, wOpO, wIsO, wBMT, List.all_cons, List.all_nil, Bool.and_true, Bool.true_and, Bool.false_eq_true, if_true, if_false, ite_true, ite_false, Bool.not_true, Bool.not_false, D.int.injEq, D.tup.injEq, D.wtup.injEq, false_or, or_false, D.lst.injEq, D.ref.injEq, D.bl.injEq, MO.lst.injEq, List.cons.injEq, reduceCtorEq, false_and, and_false, exists_const, and_assoc, exists_and_left, exists_eq_left, wLc, wiSeq, wipeR, id, wiEnum, wiZip, wiRng1, wiRng2, wgTup, lenOk, wgCons, wgNil, wFor, wLstRg1, wTupRg1, wLstRg2, wNSetD, wNGetD, z_in_lst, z_in_tup, flat_int, flat_ints, inD_ints, wRev, wDic0, wExtend,  z_ix_0, z_ixt_0, z_ix_1, z_ixt_1, z_ix_2, z_ixt_2, z_ix_3, z_ixt_3, z_ix_4, z_ixt_4, z_ix_5, z_ixt_5, z_ix_6, z_ixt_6, z_ix_7, z_ixt_7, z_ix_8, z_ixt_8, z_add_int, z_add_tup, z_add_lst, z_add_str, z_mul_int, z_mul_tup, z_mul_lst, z_ib_int, z_ii_int, z_neg_int, z_len_lst, z_len_tup, z_len_str, z_abs_int, z_int_int, z_cii_int, z_tuple_lst, z_tuple_tup, z_list_lst, z_list_tup, z_cut_lst, z_cut_tup, z_rev_lst, z_rev_tup, z_isN_, z_notN_, z_isB_, z_notB_, z_w1_, z_w2_, z_in_lst, z_in_tup, z_isK_int_int, z_isK_int_bl, z_isK_int_str, z_isK_int_tup, z_isK_int_lst, z_isK_int_dic, z_isK_int_non, z_isK_bool_int, z_isK_bool_bl, z_isK_bool_str, z_isK_bool_tup, z_isK_bool_lst, z_isK_bool_dic, z_isK_bool_non, z_isK_str_int, z_isK_str_bl, z_isK_str_str, z_isK_str_tup, z_isK_str_lst, z_isK_str_dic, z_isK_str_non, z_isK_tuple_int, z_isK_tuple_bl, z_isK_tuple_str, z_isK_tuple_tup, z_isK_tuple_lst, z_isK_tuple_dic, z_isK_tuple_non, z_isK_list_int, z_isK_list_bl, z_isK_list_str, z_isK_list_tup, z_isK_list_lst, z_isK_list_dic, z_isK_list_non, z_isK_dict_int, z_isK_dict_bl, z_isK_dict_str, z_isK_dict_tup, z_isK_dict_lst, z_isK_dict_dic, z_isK_dict_non, z_items_lst, z_items_tup, wDicN, lookD, rd_obj, wDPut, eq_self, decide_true, decide_false, Bool.or_false, Bool.false_or, Bool.or_true, Bool.true_or, Bool.false_and, Bool.and_false, $ts,*] at $h)
local macro_rules | `(tactic| simp_all! [$ts,*]) => `(tactic| simp only [wSeq, wNext, wIfS, wAsg, wRet, wRetN, wDrop, wOp, wUn, wgSub, wBM, z_tyd_lst,  wCB, wCons, wNil, wVar, wVarF, wC, wgName, wTe, wOr, DL.wNot, wAndV, wOrV, wNotV, wCh, wEq, wNe, wIsi, wIsi2, wCall, wNever, wTup, wLst, wSl, wNoPart, wPart, wYes, endD, startR, newL_f, newL_t, List.map, List.length, List.length_cons, List.length_nil, List.getElem?_cons_zero, List.getElem?_cons_succ, List.set_cons_zero, List.set_cons_succ, List.cons_append, List.nil_append, List.append_nil, List.replicate, Nat.reduceSub, Nat.reduceAdd, Option.some.injEq, ex_some_iff, ex_bl_iff, ex_int_iff, ex_tup_iff, exists_eq_left', true_and, and_true, rd_non, rd_bl, rd_int, rd_str, rd_tup, rd_lst, pl_int, pl_bl, pl_non, pl_tup, pl_lst, pl_str, isNon_int, isNon_bl, isNon_non, isNon_tup, isNon_str, isNon_ref, isNon_lst, okD_int, okD_bl, okD_non, eqD_int, eqD_bl, eqD_non, eqD_str, flat_str, flat_non, flat_bl, inD_nil, inD_cons, wFld, wFldS, wMeth, wMethS, wOpO, wIsO, wBMT, List.all_cons, List.all_nil, Bool.and_true, Bool.true_and, Bool.false_eq_true, if_true, if_false, ite_true, ite_false, Bool.not_true, Bool.not_false, D.int.injEq, D.tup.injEq, D.wtup.injEq, false_or, or_false, D.lst.injEq, D.ref.injEq, D.bl.injEq, MO.lst.injEq, List.cons.injEq, reduceCtorEq, false_and, and_false, exists_const, and_assoc, exists_and_left, exists_eq_left, wLc, wiSeq, wipeR, id, wiEnum, wiZip, wiRng1, wiRng2, wgTup, lenOk, wgCons, wgNil, wFor, wLstRg1, wTupRg1, wLstRg2, wNSetD, wNGetD, z_in_lst, z_in_tup, flat_int, flat_ints, inD_ints, wRev, wDic0, wExtend,  z_ix_0, z_ixt_0, z_ix_1, z_ixt_1, z_ix_2, z_ixt_2, z_ix_3, z_ixt_3, z_ix_4, z_ixt_4, z_ix_5, z_ixt_5, z_ix_6, z_ixt_6, z_ix_7, z_ixt_7, z_ix_8, z_ixt_8, z_add_int, z_add_tup, z_add_lst, z_add_str, z_mul_int, z_mul_tup, z_mul_lst, z_ib_int, z_ii_int, z_neg_int, z_len_lst, z_len_tup, z_len_str, z_abs_int, z_int_int, z_cii_int, z_tuple_lst, z_tuple_tup, z_list_lst, z_list_tup, z_cut_lst, z_cut_tup, z_rev_lst, z_rev_tup, z_isN_, z_notN_, z_isB_, z_notB_, z_w1_, z_w2_, z_in_lst, z_in_tup, z_isK_int_int, z_isK_int_bl, z_isK_int_str, z_isK_int_tup, z_isK_int_lst, z_isK_int_dic, z_isK_int_non, z_isK_bool_int, z_isK_bool_bl, z_isK_bool_str, z_isK_bool_tup, z_isK_bool_lst, z_isK_bool_dic, z_isK_bool_non, z_isK_str_int, z_isK_str_bl, z_isK_str_str, z_isK_str_tup, z_isK_str_lst, z_isK_str_dic, z_isK_str_non, z_isK_tuple_int, z_isK_tuple_bl, z_isK_tuple_str, z_isK_tuple_tup, z_isK_tuple_lst, z_isK_tuple_dic, z_isK_tuple_non, z_isK_list_int, z_isK_list_bl, z_isK_list_str, z_isK_list_tup, z_isK_list_lst, z_isK_list_dic, z_isK_list_non, z_isK_dict_int, z_isK_dict_bl, z_isK_dict_str, z_isK_dict_tup, z_isK_dict_lst, z_isK_dict_dic, z_isK_dict_non, z_items_lst, z_items_tup, wDicN, lookD, rd_obj, wDPut, eq_self, decide_true, decide_false, Bool.or_false, Bool.false_or, Bool.or_true, Bool.true_or, Bool.false_and, Bool.and_false, $ts,*])
def isInt : D → Bool
  | .int _ => true
  | _ => false
def isWithin (x : D) (lo hi : Int) : Bool := match x with
  | .int i => decide (lo ≤ i) && decide (i ≤ hi)
  | _ => false
def isTup (x : D) (a b : Int) : Bool := match x with
  | .tup l => decide (a ≤ (l.length : Int)) && decide ((l.length : Int) ≤ b)
  | _ => false
def permN (n : Int) (order : List Int) : Prop := order.Perm ((List.range n.toNat).map fun (i : Nat) => (i : Int))
def JH : List D → List Int → Addr → Prop := fun xs cells c => ∃ p b r n : Int, xs = [.ref c, .int p, .int b, .int r, .int n] ∧ 0 ≤ p ∧ cells.length ≤ 63
theorem permN_length {n : Int} {order : List Int} (h0 : 0 ≤ n) (h : permN n order) : (order.length : Int) = n := by
  have := h.length_eq
  simp at this
  omega
theorem permN_mem {n : Int} {order : List Int} (h : permN n order) {l : Int} (hl : l ∈ order) : 0 ≤ l ∧ l < n := by
  have := h.mem_iff.mp hl
  simp at this
  obtain ⟨a, h1, rfl⟩ := this
  omega
theorem permN_sorted {n : Int} {ns : List Int} (h : permN n ns) (hs : ns.Pairwise (· ≤ ·)) : ns.map D.int = rangeD 0 n.toNat := by
  have e : ns = (List.range n.toNat).map fun (i : Nat) => (i : Int) := by
    refine h.eq_of_pairwise (le := (· ≤ ·)) (fun a b _ _ h1 h2 => Int.le_antisymm h1 h2) hs ?_
    rw [List.pairwise_map]
    exact List.Pairwise.imp (fun h => by omega) List.pairwise_lt_range
  rw [e]
  simp [rangeD]
theorem take_succ_foldl {α β : Type} {f : β → α → β} {z : β} {l : List α} {i : Nat} {a : α} (h : l[i]? = some a) : (l.take (i + 1)).foldl f z = f ((l.take i).foldl f z) a := by
  rw [List.take_add_one, h]
  simp
theorem map_int_get {l : List Int} {i : Nat} {d : D} (h : (l.map D.int)[i]? = some d) : ∃ a, l[i]? = some a ∧ d = .int a := by
  rw [List.getElem?_map] at h
  cases e : l[i]? with
  | none => rw [e] at h; cases h
  | some a => rw [e] at h; cases h; exact ⟨a, rfl, rfl⟩
theorem getD_mem {gs : List D} {i : Nat} (h : i < gs.length) : gs.getD i .non ∈ gs := by
  rw [List.getD_eq_getElem?_getD, List.getElem?_eq_getElem h]
  exact List.getElem_mem h
theorem enumD_mem {ds : List D} {d : D} (h : d ∈ enumD ds) : ∃ i : Nat, i < ds.length ∧ d = .wtup [.int (i : Nat), ds.getD i .non] := by
  obtain ⟨i, hi, rfl⟩ := List.mem_map.mp h
  exact ⟨i, List.mem_range.mp hi, rfl⟩
theorem enumD_all {ds : List D} {f : D → Bool} : (enumD ds).all f = (List.range ds.length).all fun i => f (.wtup [.int (i : Nat), ds.getD i .non]) := by
  unfold enumD
  rw [List.all_map]
  rfl
theorem intJH : IntRef JH := by
  rintro ds cells c ⟨p, b, r, n, rfl, _, _⟩ d hd
  simp only [List.mem_cons, List.not_mem_nil, or_false] at hd
  rcases hd with rfl | rfl | rfl | rfl | rfl <;> first | exact .inl ⟨_, rfl⟩ | exact .inr ⟨_, rfl⟩
/-- books that are made here -/
structure Bk where
  count : Int
  overs : List (List Int)
  dates : List (D × D)
  kinds : List (List Int)
def bkN : List Str := ["count", "overs", "dates", "kinds", "looked"]
def bkL (b : Bk) (L : D) : List D := [.int b.count, .tup (b.overs.map tupI), .tup (b.dates.map fun p => .tup [p.1, p.2]), .tup (b.kinds.map tupI), L]
/-- a book, changing or not -/
def BkAt (S : MS) (x : D) (b : Bk) : Prop := ∃ L, rd S x = .obj "Book" bkN (bkL b L)
theorem BkAt.sub {S S' : MS} {x : D} {b : Bk} (h : BkAt S x b) (s : DL.Sub S S') : BkAt S' x b := let ⟨L, e⟩ := h; ⟨L, rd_sub s e⟩
theorem f_count {b : Bk} {L : D} : fldD "count" bkN (bkL b L) = some (.int b.count) := rfl
theorem f_overs {b : Bk} {L : D} : fldD "overs" bkN (bkL b L) = some (.tup (b.overs.map tupI)) := rfl
theorem f_dates {b : Bk} {L : D} : fldD "dates" bkN (bkL b L) = some (.tup (b.dates.map fun p => .tup [p.1, p.2])) := rfl
theorem f_kinds {b : Bk} {L : D} : fldD "kinds" bkN (bkL b L) = some (.tup (b.kinds.map tupI)) := rfl
theorem f_looked {b : Bk} {L : D} : fldD "looked" bkN (bkL b L) = some L := rfl
def bound (d : D) : Prop := d = .non ∨ ∃ i : Int, d = .int i ∧ -100000 ≤ i ∧ i ≤ 100000
def dateOk (p : D × D) : Prop := bound p.1 ∧ bound p.2 ∧ ∀ i j : Int, p.1 = .int i → p.2 = .int j → i ≤ j
def bkOk (b : Bk) : Prop := (1 ≤ b.count ∧ b.count ≤ 16) ∧ ((∀ r ∈ b.overs, ∃ x y : Int, r = [x, y] ∧ x ≠ y ∧ (0 ≤ x ∧ x < b.count) ∧ (0 ≤ y ∧ y < b.count)) ∧ b.overs.Pairwise (· < ·)) ∧
  ((b.dates.length : Int) = b.count ∧ ∀ p ∈ b.dates, dateOk p) ∧ (b.kinds.length ≤ 16 ∧ ∀ r ∈ b.kinds, r.Pairwise (· < ·) ∧ (1 < r.length ∧ r.length ≤ 16) ∧ ∀ x ∈ r, 0 ≤ x ∧ x < b.count)
theorem permN_nodup {n : Int} {order : List Int} (h : permN n order) : order.Nodup := by
  refine (List.Perm.nodup_iff h).mpr ?_
  exact List.pairwise_map.mpr (List.Pairwise.imp (fun h e => by omega) List.pairwise_lt_range)
theorem permN_of {n : Int} {order : List Int} (h : permN n order) {a : Int} (ha : 0 ≤ a ∧ a < n) : a ∈ order := h.mem_iff.mpr (List.mem_map.mpr ⟨a.toNat, List.mem_range.mpr (by omega), by omega⟩)
theorem idxOf_getElem' {l : List Int} (h : l.Nodup) {i : Nat} (hi : i < l.length) : l.idxOf l[i] = i := by
  induction l generalizing i with
  | nil => cases hi
  | cons x l ih =>
    cases i with
    | zero => simp
    | succ i =>
      have h2 : i < l.length := by simpa using hi
      have hx : x ≠ l[i] := fun e => (List.nodup_cons.mp h).1 (e ▸ List.getElem_mem h2)
      show (x :: l).idxOf l[i] = i + 1
      rw [List.idxOf_cons, ih (List.nodup_cons.mp h).2 h2, show (x == l[i]) = false from by simpa using hx]
      rfl
theorem permN_mk {n : Int} {o : List Int} (h1 : o.Nodup) (h2 : ∀ x ∈ o, 0 ≤ x ∧ x < n) (h3 : o.length = n.toNat) : permN n o := by
  exact perm_of_nodup h1 (fun l hl => by have := h2 l hl; omega) h3
theorem exists_ints {p : Int → Prop} {xs : List D} (h : ∀ d ∈ xs, ∃ x : Int, d = .int x ∧ p x) : ∃ ys : List Int, xs = ys.map D.int ∧ ∀ y ∈ ys, p y := by
  induction xs with
  | nil => exact ⟨[], rfl, fun _ h => nomatch h⟩
  | cons d xs ih =>
    obtain ⟨x, rfl, hx⟩ := h d List.mem_cons_self
    obtain ⟨ys, rfl, hy⟩ := ih fun d hd => h d (List.mem_cons_of_mem _ hd)
    refine ⟨x :: ys, rfl, fun y h => ?_⟩
    rcases List.mem_cons.mp h with rfl | h
    · exact hx
    · exact hy y h
theorem set_t {S : MS} {t e : Addr} {m x : MO} (ht : S t = some x) (he : S e = none) : (S.set e m) t = some x := by
  rw [MS.set_ne (MS.ne_of ht he)]
  exact ht
def ranI (c : Int) : List Int := (List.range c.toNat).map fun (i : Nat) => (i : Int)
theorem ranI_mem {c x : Int} : x ∈ ranI c ↔ 0 ≤ x ∧ x < c := by
  unfold ranI
  rw [List.mem_map]
  constructor
  · rintro ⟨i, hi, rfl⟩
    have := List.mem_range.mp hi
    omega
  · rintro ⟨h0, h1⟩
    exact ⟨x.toNat, List.mem_range.mpr (by omega), by omega⟩
theorem ranI_nodup (c : Int) : (ranI c).Nodup := List.pairwise_map.mpr (List.Pairwise.imp (fun h e => by omega) List.pairwise_lt_range)
theorem ranI_lt (c : Int) : (ranI c).Pairwise (· < ·) := List.pairwise_map.mpr (List.Pairwise.imp (fun h => by omega) List.pairwise_lt_range)
theorem ranI_length (c : Int) : (ranI c).length = c.toNat := by simp [ranI]
theorem rangeD_ranI (c : Int) : rangeD 0 c.toNat = (ranI c).map D.int := by simp [rangeD, ranI]
def ltD : D → D → Bool
  | .int i, .int j => decide (i < j)
  | _, _ => false
def lateOf (b : Bk) (o : Int) : D := (b.dates.getD o.toNat (.non, .non)).2
def earlyOf (b : Bk) (o : Int) : D := (b.dates.getD o.toNat (.non, .non)).1
def freeL (c : Int) (p : List Int) : List Int := (ranI c).filter fun o => !decide (o ∈ p)
def leftL (c : Int) (p : List Int) (l : Int) : List Int := (ranI c).filter fun o => !decide (o ∈ p) && !decide (o = l)
def overL (b : Bk) (left : List Int) (l : Int) : Bool := b.overs.any fun r => match r with
  | [x, y] => decide (x = l) && decide (y ∈ left)
  | _ => false
def kindL (k p left : List Int) (l : Int) : Bool := p.any (fun o => decide (o ∈ k)) && !decide (l ∈ k) && left.any (fun o => decide (o ∈ k))
/-- whether a layer can stand next, as the law has it -/
def canL (b : Bk) (p : List Int) (l : Int) : Bool :=
  !overL b (leftL b.count p l) l && (b.kinds.all (fun k => !kindL k p (leftL b.count p l) l) && !(leftL b.count p l).any fun o => ltD (lateOf b o) (earlyOf b l))
def nextL (b : Bk) (p : List Int) : List Int := (freeL b.count p).filter (canL b p)
/-- .. as the program has it -/
def overP (p : List Int) (l : Int) : List Int → Bool
  | [x, y] => decide (x = l) && !decide (y ∈ p)
  | _ => false
def standsP (b : Bk) (p : List Int) (l : Int) : Bool :=
  !b.overs.any (overP p l) && !(leftL b.count p l).any fun o => ltD (lateOf b o) (earlyOf b l)
def metP (k p : List Int) : List Int := k.filter fun o => decide (o ∈ p)
def unbP (k p : List Int) (l : Int) : Bool :=
  if (decide ((metP k p).length = 0) || decide ((metP k p).length = k.length) || decide (l ∈ k)) = true then !decide (l ∈ k) || decide ((metP k p).length = 0) || (match p.getLast? with | some z => decide (z ∈ k) | none => false) else false
def Good (b : Bk) (p : List Int) : Prop := p.Nodup ∧ (∀ x ∈ p, 0 ≤ x ∧ x < b.count) ∧ ∀ k ∈ b.kinds, (∃ o ∈ k, o ∈ p) → (∃ o ∈ k, o ∉ p) → ∃ z, p.getLast? = some z ∧ z ∈ k
theorem good_nil (b : Bk) : Good b [] := ⟨List.nodup_nil, fun _ h => (nomatch h), fun k _ ⟨_, _, h⟩ => (nomatch h)⟩
theorem leftL_mem {c : Int} {p : List Int} {l x : Int} : x ∈ leftL c p l ↔ (0 ≤ x ∧ x < c) ∧ x ∉ p ∧ x ≠ l := by
  unfold leftL
  rw [List.mem_filter, ranI_mem]
  simp
theorem nextL_mem {b : Bk} {p : List Int} {l : Int} : l ∈ nextL b p ↔ (0 ≤ l ∧ l < b.count) ∧ l ∉ p ∧ canL b p l = true := by
  unfold nextL freeL
  rw [List.mem_filter, List.mem_filter, ranI_mem]
  simp [and_assoc]
theorem met_zero {k p : List Int} : (metP k p).length = 0 ↔ ¬ ∃ o ∈ k, o ∈ p := by
  unfold metP
  rw [List.length_eq_zero_iff, List.filter_eq_nil_iff]
  simp
theorem met_all {k p : List Int} : (metP k p).length = k.length ↔ ¬ ∃ o ∈ k, o ∉ p := by
  unfold metP
  rw [List.length_filter_eq_length_iff]
  simp
theorem any_dec {l : List Int} {P : Int → Prop} [DecidablePred P] : (l.any fun o => decide (P o)) = decide (∃ o ∈ l, P o) := by
  rw [Bool.eq_iff_iff, List.any_eq_true, decide_eq_true_eq]
  simp
/-- both ways of looking are one, along rows that can be begun -/
theorem can_eq {b : Bk} (hb : bkOk b) {p : List Int} (g : Good b p) {l : Int} (hp : l ∉ p) (hl : 0 ≤ l ∧ l < b.count) : (standsP b p l && b.kinds.all fun k => unbP k p l) = canL b p l := by
  unfold standsP canL
  have e1 : b.overs.any (overP p l) = overL b (leftL b.count p l) l := by
    unfold overL
    rw [Bool.eq_iff_iff, List.any_eq_true, List.any_eq_true]
    constructor
    · rintro ⟨r, hr, h⟩
      refine ⟨r, hr, ?_⟩
      obtain ⟨x, y, rfl, hxy, hx, hy⟩ := hb.2.1.1 r hr
      simp only [overP, Bool.and_eq_true, decide_eq_true_eq, Bool.not_eq_true', decide_eq_false_iff_not] at h ⊢
      exact ⟨h.1, leftL_mem.mpr ⟨hy, h.2, fun e => hxy (by rw [h.1, e])⟩⟩
    · rintro ⟨r, hr, h⟩
      refine ⟨r, hr, ?_⟩
      obtain ⟨x, y, rfl, hxy, hx, hy⟩ := hb.2.1.1 r hr
      simp only [overP, Bool.and_eq_true, decide_eq_true_eq, Bool.not_eq_true', decide_eq_false_iff_not] at h ⊢
      exact ⟨h.1, (leftL_mem.mp h.2).2.1⟩
  have e2 : (b.kinds.all fun k => unbP k p l) = b.kinds.all (fun k => !kindL k p (leftL b.count p l) l) := by
    rw [Bool.eq_iff_iff, List.all_eq_true, List.all_eq_true]
    refine forall_congr' fun k => forall_congr' fun hk => ?_
    obtain ⟨_, _, hkr⟩ := hb.2.2.2.2 k hk
    have hg := g.2.2 k hk
    have pa : (p.any fun o => decide (o ∈ k)) = decide (∃ o ∈ k, o ∈ p) := by
      rw [any_dec, decide_eq_decide]
      exact ⟨fun ⟨o, h1, h2⟩ => ⟨o, h2, h1⟩, fun ⟨o, h1, h2⟩ => ⟨o, h2, h1⟩⟩
    unfold unbP kindL
    rw [pa]
    by_cases hlk : l ∈ k
    · rw [decide_eq_true hlk]
      simp only [Bool.or_true, if_true, Bool.not_true, Bool.false_or, Bool.and_false, Bool.false_and, Bool.not_false, iff_true]
      by_cases h0 : ∃ o ∈ k, o ∈ p
      · obtain ⟨z, hz, hzk⟩ := hg h0 ⟨l, hlk, hp⟩
        rw [hz]
        simp [hzk]
      · rw [decide_eq_true (met_zero.mpr h0)]
        rfl
    · rw [decide_eq_false hlk]
      have la : ((leftL b.count p l).any fun o => decide (o ∈ k)) = decide (∃ o ∈ k, o ∉ p) := by
        rw [any_dec, decide_eq_decide]
        exact ⟨fun ⟨o, h1, h2⟩ => ⟨o, h2, (leftL_mem.mp h1).2.1⟩, fun ⟨o, h1, h2⟩ => ⟨o, leftL_mem.mpr ⟨hkr o h1, h2, fun e => hlk (e ▸ h1)⟩, h1⟩⟩
      rw [la, show decide ((metP k p).length = 0) = !decide (∃ o ∈ k, o ∈ p) by rw [← decide_not, decide_eq_decide]; exact met_zero,
        show decide ((metP k p).length = k.length) = !decide (∃ o ∈ k, o ∉ p) by rw [← decide_not, decide_eq_decide]; exact met_all]
      cases decide (∃ o ∈ k, o ∈ p) <;> cases decide (∃ o ∈ k, o ∉ p) <;> simp
  rw [e1, e2, Bool.and_assoc, Bool.and_comm (!(leftL b.count p l).any _)]
theorem good_next {b : Bk} (hb : bkOk b) {p : List Int} (g : Good b p) {l : Int} (h : l ∈ nextL b p) : Good b (p ++ [l]) := by
  obtain ⟨hl, hp, hc⟩ := nextL_mem.mp h
  refine ⟨?_, fun x hx => ?_, fun k hk h1 h2 => ⟨l, by simp, ?_⟩⟩
  · rw [List.nodup_append]
    exact ⟨g.1, by simp, fun a ha c hc => by rw [List.mem_singleton.mp hc]; rintro rfl; exact hp ha⟩
  · rcases List.mem_append.mp hx with h | h
    · exact g.2.1 x h
    · rw [List.mem_singleton.mp h]
      exact hl
  · refine Classical.byContradiction fun hlk => ?_
    unfold canL at hc
    simp only [Bool.and_eq_true] at hc
    have := List.all_eq_true.mp hc.2.1 k hk
    obtain ⟨_, _, hkr⟩ := hb.2.2.2.2 k hk
    obtain ⟨o, ho1, ho2⟩ := h1
    obtain ⟨u, hu1, hu2⟩ := h2
    have ho3 : o ∈ p := by
      rcases List.mem_append.mp ho2 with h | h
      · exact h
      · rw [List.mem_singleton.mp h] at ho1
        exact absurd ho1 hlk
    have hu3 : u ∉ p := fun z => hu2 (List.mem_append_left _ z)
    have hul : u ≠ l := fun e => hlk (e ▸ hu1)
    unfold kindL at this
    rw [show (p.any fun o => decide (o ∈ k)) = true from List.any_eq_true.mpr ⟨o, ho3, decide_eq_true ho1⟩, decide_eq_false hlk,
      show ((leftL b.count p l).any fun o => decide (o ∈ k)) = true from List.any_eq_true.mpr ⟨u, leftL_mem.mpr ⟨hkr u hu1, hu3, hul⟩, decide_eq_true hu1⟩] at this
    cases this
theorem free_len {c : Int} : ∀ {p : List Int}, p.Nodup → (∀ x ∈ p, 0 ≤ x ∧ x < c) → (freeL c p).length + p.length = c.toNat
  | [], _, _ => by
    unfold freeL
    rw [List.filter_eq_self.mpr (fun x _ => by simp), ranI_length]
    rfl
  | a :: p, hd, hr => by
    have ih := free_len (List.nodup_cons.mp hd).2 fun x hx => hr x (List.mem_cons_of_mem _ hx)
    have e : freeL c (a :: p) = (freeL c p).erase a := by
      unfold freeL
      rw [List.Nodup.erase_eq_filter ((ranI_nodup c).filter _), List.filter_filter]
      refine List.filter_congr fun x _ => ?_
      by_cases h1 : x = a <;> by_cases h2 : x ∈ p <;> simp [h1, h2]
    have ha : a ∈ freeL c p := List.mem_filter.mpr ⟨ranI_mem.mpr (hr a List.mem_cons_self), by simpa using (List.nodup_cons.mp hd).1⟩
    have hpos : 0 < (freeL c p).length := List.length_pos_of_mem ha
    rw [e, List.length_erase_of_mem ha, List.length_cons]
    omega
/-- all rows that go on from one, by so many layers -/
def ext (b : Bk) : Nat → List Int → List (List Int)
  | 0, p => [p]
  | n + 1, p => (nextL b p).flatMap fun l => ext b n (p ++ [l])
/-- the rows of so many layers -/
def lev (b : Bk) : Nat → List (List Int)
  | 0 => [[]]
  | n + 1 => (lev b n).flatMap fun p => (nextL b p).map fun l => p ++ [l]
def fits (b : Bk) : List (List Int) := lev b b.count.toNat
theorem lev_ext (b : Bk) : ∀ n k : Nat, (lev b k).flatMap (ext b n) = lev b (k + n)
  | 0, k => by
    rw [show ext b 0 = fun p => [p] from rfl]
    simp [List.flatMap_singleton']
  | n + 1, k => by
    rw [show k + (n + 1) = (k + 1) + n by omega, ← lev_ext b n (k + 1)]
    show (lev b k).flatMap (fun p => (nextL b p).flatMap fun l => ext b n (p ++ [l])) = ((lev b k).flatMap fun p => (nextL b p).map fun l => p ++ [l]).flatMap (ext b n)
    rw [List.flatMap_assoc]
    refine congrArg (fun f => (lev b k).flatMap f) (funext fun p => ?_)
    rw [List.flatMap_map]
theorem fits_ext (b : Bk) : fits b = ext b b.count.toNat [] := by
  have := lev_ext b b.count.toNat 0
  rw [Nat.zero_add] at this
  unfold fits
  rw [← this]
  simp [lev]
theorem lev_good {b : Bk} (hb : bkOk b) : ∀ k : Nat, ∀ p ∈ lev b k, Good b p ∧ p.length = k
  | 0, p, h => by
    rw [List.mem_singleton.mp h]
    exact ⟨good_nil b, rfl⟩
  | k + 1, p, h => by
    obtain ⟨q, hq, h⟩ := List.mem_flatMap.mp h
    obtain ⟨l, hl, rfl⟩ := List.mem_map.mp h
    obtain ⟨g, e⟩ := lev_good hb k q hq
    exact ⟨good_next hb g hl, by rw [List.length_append, e]; rfl⟩
theorem fits_perm {b : Bk} (hb : bkOk b) {o : List Int} (h : o ∈ fits b) : permN b.count o := by
  obtain ⟨g, e⟩ := lev_good hb _ o h
  exact permN_mk g.1 g.2.1 e
theorem next_len {b : Bk} {p : List Int} (g : Good b p) : (nextL b p).length + p.length ≤ b.count.toNat := by
  have h1 := free_len g.1 g.2.1
  have h2 : (nextL b p).length ≤ (freeL b.count p).length := List.length_filter_le _ _
  omega
def fac : Nat → Nat
  | 0 => 1
  | n + 1 => (n + 1) * fac n
theorem sum_le_mul {α : Type} {f : α → Nat} {m : Nat} : ∀ {l : List α}, (∀ x ∈ l, f x ≤ m) → (l.map f).sum ≤ l.length * m
  | [], _ => by simp
  | x :: l, h => by
    have ih := sum_le_mul (l := l) fun y hy => h y (List.mem_cons_of_mem _ hy)
    have := h x List.mem_cons_self
    rw [List.map_cons, List.sum_cons, List.length_cons, Nat.succ_mul]
    omega
theorem ext_len {b : Bk} (hb : bkOk b) : ∀ (n : Nat) (p : List Int), Good b p → p.length + n = b.count.toNat → (ext b n p).length ≤ fac n
  | 0, p, _, _ => Nat.le_refl 1
  | n + 1, p, g, h => by
    show ((nextL b p).flatMap fun l => ext b n (p ++ [l])).length ≤ (n + 1) * fac n
    rw [List.length_flatMap]
    have h1 := next_len g
    refine Nat.le_trans (sum_le_mul (m := fac n) fun l hl => ext_len hb n _ (good_next hb g hl) (by rw [List.length_append]; simp; omega)) (Nat.mul_le_mul_right _ (by omega))
theorem fits_len {b : Bk} (hb : bkOk b) : (fits b).length ≤ fac b.count.toNat := by
  rw [fits_ext]
  exact ext_len hb _ [] (good_nil b) (by simp)
/-- how many rows are gone through -/
def nod (b : Bk) : Nat → List Int → Nat
  | 0, _ => 1
  | n + 1, p => 1 + ((nextL b p).map fun l => nod b n (p ++ [l])).sum
theorem nod_le {b : Bk} (hb : bkOk b) (hc : b.count ≤ 6) : ∀ (n : Nat) (p : List Int), Good b p → nod b n p ≤ 8 ^ n
  | 0, p, _ => Nat.le_refl 1
  | n + 1, p, g => by
    show 1 + ((nextL b p).map fun l => nod b n (p ++ [l])).sum ≤ 8 ^ n * 8
    have h1 := next_len g
    have h2 : (nextL b p).length ≤ 6 := by omega
    have h3 : ((nextL b p).map fun l => nod b n (p ++ [l])).sum ≤ (nextL b p).length * 8 ^ n := sum_le_mul (m := 8 ^ n) fun l hl => nod_le hb hc n _ (good_next hb g hl)
    have h4 : (nextL b p).length * 8 ^ n ≤ 6 * 8 ^ n := Nat.mul_le_mul_right _ h2
    have h5 : 0 < 8 ^ n := Nat.pow_pos (by decide)
    omega
theorem nod_pos (b : Bk) (n : Nat) (p : List Int) : 1 ≤ nod b n p := by
  cases n with
  | zero => exact Nat.le_refl 1
  | succ n => exact Nat.le_add_right 1 _
/-! all orders as they come one behind the other, and those that fit -/
def ords (c : Int) : Nat → List (List Int)
  | 0 => [[]]
  | k + 1 => (ords c k).flatMap fun p => (freeL c p).map fun l => p ++ [l]
def stepOk (b : Bk) : List Int → List Int → Bool
  | _, [] => true
  | p, l :: r => canL b p l && stepOk b (p ++ [l]) r
theorem stepOk_snoc (b : Bk) : ∀ (r p : List Int) (l : Int), stepOk b p (r ++ [l]) = (stepOk b p r && canL b (p ++ r) l)
  | [], p, l => by simp [stepOk]
  | x :: r, p, l => by rw [List.cons_append, stepOk, stepOk, stepOk_snoc b r, Bool.and_assoc, List.append_assoc]; rfl
theorem lev_ords (b : Bk) : ∀ k : Nat, lev b k = (ords b.count k).filter (stepOk b [])
  | 0 => rfl
  | k + 1 => by
    show (lev b k).flatMap _ = ((ords b.count k).flatMap _).filter _
    rw [lev_ords b k]
    induction ords b.count k with
    | nil => rfl
    | cons p ps ih =>
      rw [List.flatMap_cons, List.filter_append, ← ih, List.filter_cons]
      have e : ((freeL b.count p).map fun l => p ++ [l]).filter (stepOk b []) = if stepOk b [] p = true then (nextL b p).map fun l => p ++ [l] else [] := by
        rw [List.filter_map]
        by_cases h : stepOk b [] p = true
        · rw [if_pos h]
          unfold nextL
          refine congrArg _ (List.filter_congr fun l _ => ?_)
          show stepOk b [] (p ++ [l]) = _
          rw [stepOk_snoc, h, List.nil_append, Bool.true_and]
        · rw [if_neg h, List.map_eq_nil_iff, List.filter_eq_nil_iff]
          intro l _ hl
          have hl : stepOk b [] (p ++ [l]) = true := hl
          rw [stepOk_snoc, Bool.and_eq_true] at hl
          exact h hl.1
      rw [e]
      by_cases h : stepOk b [] p = true
      · rw [if_pos h, if_pos h, List.flatMap_cons]
      · rw [if_neg h, if_neg h, List.nil_append]
theorem freeL_mem {c : Int} {p : List Int} {x : Int} : x ∈ freeL c p ↔ (0 ≤ x ∧ x < c) ∧ x ∉ p := by
  unfold freeL
  rw [List.mem_filter, ranI_mem]
  simp
theorem ords_mem {c : Int} : ∀ {k : Nat} {o : List Int}, o ∈ ords c k ↔ o.Nodup ∧ (∀ x ∈ o, 0 ≤ x ∧ x < c) ∧ o.length = k
  | 0, o => by
    show o ∈ [[]] ↔ _
    rw [List.mem_singleton]
    constructor
    · rintro rfl
      exact ⟨List.nodup_nil, fun _ h => (nomatch h), rfl⟩
    · exact fun h => List.length_eq_zero_iff.mp h.2.2
  | k + 1, o => by
    show o ∈ (ords c k).flatMap _ ↔ _
    rw [List.mem_flatMap]
    constructor
    · rintro ⟨p, hp, h⟩
      obtain ⟨l, hl, rfl⟩ := List.mem_map.mp h
      obtain ⟨h1, h2, h3⟩ := ords_mem.mp hp
      obtain ⟨h4, h5⟩ := freeL_mem.mp hl
      refine ⟨?_, fun x hx => ?_, by rw [List.length_append, h3]; rfl⟩
      · rw [List.nodup_append]
        exact ⟨h1, by simp, fun a ha z hz => by rw [List.mem_singleton.mp hz]; rintro rfl; exact h5 ha⟩
      · rcases List.mem_append.mp hx with h | h
        · exact h2 x h
        · rw [List.mem_singleton.mp h]; exact h4
    · rintro ⟨h1, h2, h3⟩
      have hne : o ≠ [] := fun e => by rw [e] at h3; cases h3
      have eo := List.dropLast_concat_getLast hne
      rw [← eo, List.nodup_append] at h1
      refine ⟨o.dropLast, ords_mem.mpr ⟨h1.1, fun x hx => h2 x ((List.dropLast_sublist o).subset hx), by rw [List.length_dropLast, h3]; rfl⟩, ?_⟩
      refine List.mem_map.mpr ⟨o.getLast hne, freeL_mem.mpr ⟨h2 _ (List.getLast_mem hne), fun hm => h1.2.2 _ hm _ (List.mem_singleton_self _) rfl⟩, eo⟩
theorem lt_snoc {p q : List Int} (h : p.length = q.length) (hlt : p < q) (l m : Int) : p ++ [l] < q ++ [m] := by
  induction p generalizing q with
  | nil =>
    cases q with
    | nil => exact absurd hlt (List.lt_irrefl _)
    | cons y q => cases h
  | cons x p ih =>
    cases q with
    | nil => cases h
    | cons y q =>
      rw [List.cons_lt_cons_iff] at hlt
      show x :: (p ++ [l]) < y :: (q ++ [m])
      rw [List.cons_lt_cons_iff]
      rcases hlt with h1 | ⟨h1, h2⟩
      · exact .inl h1
      · exact .inr ⟨h1, ih (by simpa using h) h2⟩
theorem lt_same {l m : Int} (h : l < m) : ∀ p : List Int, p ++ [l] < p ++ [m]
  | [] => by
    show [l] < [m]
    rw [List.cons_lt_cons_iff]
    exact .inl h
  | x :: p => by
    show x :: (p ++ [l]) < x :: (p ++ [m])
    rw [List.cons_lt_cons_iff]
    exact .inr ⟨rfl, lt_same h p⟩
theorem pairwise_flatMap' {α β : Type} {R : β → β → Prop} {f : α → List β} : ∀ {l : List α}, (∀ a ∈ l, (f a).Pairwise R) → l.Pairwise (fun a c => ∀ x ∈ f a, ∀ y ∈ f c, R x y) → (l.flatMap f).Pairwise R
  | [], _, _ => .nil
  | a :: l, h1, h2 => by
    rw [List.flatMap_cons, List.pairwise_append]
    rw [List.pairwise_cons] at h2
    refine ⟨h1 a List.mem_cons_self, pairwise_flatMap' (fun c hc => h1 c (List.mem_cons_of_mem _ hc)) h2.2, fun x hx y hy => ?_⟩
    obtain ⟨c, hc, hy⟩ := List.mem_flatMap.mp hy
    exact h2.1 c hc x hx y hy
theorem ords_lt (c : Int) : ∀ k : Nat, (ords c k).Pairwise (· < ·)
  | 0 => List.pairwise_singleton _ _
  | k + 1 => by
    refine pairwise_flatMap' (fun p _ => ?_) ?_
    · rw [List.pairwise_map]
      exact ((ranI_lt c).sublist List.filter_sublist).imp fun h => lt_same h p
    · refine List.Pairwise.imp_of_mem (fun {p q} hp hq h x hx y hy => ?_) (ords_lt c k)
      obtain ⟨l, _, rfl⟩ := List.mem_map.mp hx
      obtain ⟨m, _, rfl⟩ := List.mem_map.mp hy
      exact lt_snoc (by rw [(ords_mem.mp hp).2.2, (ords_mem.mp hq).2.2]) h l m
theorem ords_perm {c : Int} {o : List Int} : o ∈ ords c c.toNat ↔ permN c o := by
  rw [ords_mem]
  constructor
  · exact fun h => permN_mk h.1 h.2.1 h.2.2
  · intro h
    refine ⟨permN_nodup h, fun x hx => permN_mem h hx, ?_⟩
    have := h.length_eq
    simpa using this
theorem fits_ords (b : Bk) : fits b = (ords b.count b.count.toNat).filter (stepOk b []) := lev_ords b _
theorem fits_lt (b : Bk) : (fits b).Pairwise (· < ·) := by
  rw [fits_ords]
  exact (ords_lt _ _).sublist List.filter_sublist
theorem row_lt_irrefl (x : List Int) : ¬ x < x := List.lt_irrefl x
theorem fits_nodup (b : Bk) : (fits b).Nodup := (fits_lt b).imp (S := fun x y => x ≠ y) fun {x y} (h : x < y) (e : x = y) => by subst e; exact row_lt_irrefl x h
theorem stepOk_iff (b : Bk) : ∀ (r p : List Int), stepOk b p r = true ↔ ∀ r1 l r2, r = r1 ++ l :: r2 → canL b (p ++ r1) l = true
  | [], p => ⟨fun _ r1 l r2 e => (by cases r1 with | nil => cases e | cons _ _ => cases e), fun _ => rfl⟩
  | x :: r, p => by
    rw [stepOk, Bool.and_eq_true, stepOk_iff b r]
    constructor
    · rintro ⟨h1, h2⟩ r1 l r2 e
      cases r1 with
      | nil =>
        cases e
        rw [List.append_nil]
        exact h1
      | cons y r1 =>
        cases e
        have := h2 r1 l r2 rfl
        rwa [List.append_assoc] at this
    · intro h
      refine ⟨?_, fun r1 l r2 e => ?_⟩
      · have := h [] x r rfl
        rwa [List.append_nil] at this
      · have := h (x :: r1) l r2 (by rw [e]; rfl)
        rwa [List.append_assoc]
/-- an order fits: what stands at each place goes with what is below and above -/
def FitP (b : Bk) (o : List Int) : Prop := ∀ p l r, o = p ++ l :: r →
  (∀ x y, [x, y] ∈ b.overs → x = l → y ∉ r) ∧ (∀ k ∈ b.kinds, (∃ z ∈ p, z ∈ k) → l ∉ k → ∀ z ∈ r, z ∉ k) ∧ ∀ z ∈ r, ltD (lateOf b z) (earlyOf b l) = false
theorem left_split {c : Int} {p r : List Int} {l : Int} (h : permN c (p ++ l :: r)) (x : Int) : x ∈ leftL c p l ↔ x ∈ r := by
  have hd := permN_nodup h
  rw [List.nodup_append, List.nodup_cons] at hd
  rw [leftL_mem]
  constructor
  · rintro ⟨h1, h2, h3⟩
    have := permN_of h h1
    rcases List.mem_append.mp this with z | z
    · exact absurd z h2
    · rcases List.mem_cons.mp z with z | z
      · exact absurd z h3
      · exact z
  · intro hx
    refine ⟨permN_mem h (by simp [hx]), fun z => ?_, fun z => ?_⟩
    · exact hd.2.2 x z x (List.mem_cons_of_mem _ hx) rfl
    · exact hd.2.1.1 (z ▸ hx)
theorem canL_split {b : Bk} (hb : bkOk b) {p r : List Int} {l : Int} (h : permN b.count (p ++ l :: r)) : canL b p l = true ↔
    (∀ x y, [x, y] ∈ b.overs → x = l → y ∉ r) ∧ (∀ k ∈ b.kinds, (∃ z ∈ p, z ∈ k) → l ∉ k → ∀ z ∈ r, z ∉ k) ∧ ∀ z ∈ r, ltD (lateOf b z) (earlyOf b l) = false := by
  have hm := left_split h
  unfold canL
  simp only [Bool.and_eq_true, Bool.not_eq_true']
  refine and_congr ?_ (and_congr ?_ ?_)
  · unfold overL
    rw [← Bool.not_eq_true, List.any_eq_true]
    constructor
    · intro hn x y hxy e hy
      refine hn ⟨[x, y], hxy, ?_⟩
      show (decide (x = l) && decide (y ∈ leftL b.count p l)) = true
      rw [decide_eq_true e, decide_eq_true ((hm y).mpr hy)]
      rfl
    · rintro hn ⟨r', hr, e⟩
      obtain ⟨x, y, rfl, _⟩ := hb.2.1.1 r' hr
      have e : (decide (x = l) && decide (y ∈ leftL b.count p l)) = true := e
      rw [Bool.and_eq_true, decide_eq_true_eq, decide_eq_true_eq] at e
      exact hn x y hr e.1 ((hm y).mp e.2)
  · rw [List.all_eq_true]
    refine forall_congr' fun k => forall_congr' fun _ => ?_
    unfold kindL
    rw [Bool.not_eq_true', ← Bool.not_eq_true, Bool.and_eq_true, Bool.and_eq_true, any_dec, any_dec, decide_eq_true_eq, decide_eq_true_eq, Bool.not_eq_true', decide_eq_false_iff_not]
    constructor
    · intro hn h1 h2 z hz hzk
      exact hn ⟨⟨h1, h2⟩, z, (hm z).mpr hz, hzk⟩
    · rintro hn ⟨⟨h1, h2⟩, z, hz, hzk⟩
      exact hn h1 h2 z ((hm z).mp hz) hzk
  · rw [← Bool.not_eq_true, List.any_eq_true]
    constructor
    · intro hn z hz
      exact Bool.eq_false_iff.mpr fun e => hn ⟨z, (hm z).mpr hz, e⟩
    · rintro hn ⟨z, hz, e⟩
      rw [hn z ((hm z).mp hz)] at e
      cases e
theorem stepOk_fit {b : Bk} (hb : bkOk b) {o : List Int} (h : permN b.count o) : stepOk b [] o = true ↔ FitP b o := by
  rw [stepOk_iff]
  refine forall_congr' fun p => forall_congr' fun l => forall_congr' fun r => ?_
  constructor
  · intro hc e
    subst e
    exact (canL_split hb h).mp (hc rfl)
  · intro hc e
    subst e
    exact (canL_split hb h).mpr (hc rfl)
theorem fits_mem {b : Bk} (hb : bkOk b) {o : List Int} : o ∈ fits b ↔ permN b.count o ∧ FitP b o := by
  rw [fits_ords, List.mem_filter, ords_perm]
  constructor
  · exact fun ⟨h1, h2⟩ => ⟨h1, (stepOk_fit hb h1).mp h2⟩
  · exact fun ⟨h1, h2⟩ => ⟨h1, (stepOk_fit hb h1).mpr h2⟩
theorem fits_filter {b : Bk} (hb : bkOk b) (P : List Int → Bool) (h : ∀ o, permN b.count o → (P o = true ↔ FitP b o)) : fits b = (ords b.count b.count.toNat).filter P := by
  rw [fits_ords]
  refine List.filter_congr fun o ho => ?_
  have hp := ords_perm.mp ho
  rw [Bool.eq_iff_iff, stepOk_fit hb hp, h o hp]
/-! an order fits, as one looks at places -/
theorem idx_split {o p r : List Int} {l : Int} (hd : o.Nodup) (e : o = p ++ l :: r) : o.idxOf l = p.length ∧ (∀ z ∈ p, o.idxOf z < p.length) ∧ ∀ z ∈ r, p.length < o.idxOf z := by
  have hl : p.length < o.length := by rw [e, List.length_append, List.length_cons]; omega
  have el : o[p.length] = l := by simp [e]
  have at_ : ∀ i (h : i < o.length), o.idxOf o[i] = i := fun i h => idxOf_getElem' hd h
  refine ⟨by rw [← el]; exact at_ _ hl, fun z hz => ?_, fun z hz => ?_⟩
  · obtain ⟨i, hi, rfl⟩ := List.mem_iff_getElem.mp hz
    have h2 : i < o.length := by omega
    have : o[i] = p[i] := by simp [e, List.getElem_append_left hi]
    rw [← this, at_ i h2]
    exact hi
  · obtain ⟨i, hi, rfl⟩ := List.mem_iff_getElem.mp hz
    have h2 : p.length + (i + 1) < o.length := by rw [e, List.length_append, List.length_cons]; omega
    have : o[p.length + (i + 1)] = r[i] := by
      have h3 : o[p.length + (i + 1)]? = r[i]? := by rw [e, List.getElem?_append_right (by omega)]; simp
      rw [List.getElem?_eq_getElem h2, List.getElem?_eq_getElem hi] at h3
      exact Option.some.inj h3
    rw [← this, at_ _ h2]
    omega
theorem split_at {o : List Int} {i : Nat} (h : i < o.length) : o = o.take i ++ o[i] :: o.drop (i + 1) := by
  rw [← List.drop_eq_getElem_cons h, List.take_append_drop]
def kiP (o k : List Int) : Prop := ∀ p l r, o = p ++ l :: r → (∃ z ∈ p, z ∈ k) → l ∉ k → ∀ z ∈ r, z ∉ k
def daP (b : Bk) (o : List Int) : Prop := ∀ i (h : i < o.length), ∀ z ∈ o.drop (i + 1), ltD (lateOf b z) (earlyOf b o[i]) = false
def ovP (b : Bk) (o : List Int) : Prop := ∀ x y, [x, y] ∈ b.overs → o.idxOf y < o.idxOf x
theorem fit_iff {b : Bk} (hb : bkOk b) {o : List Int} (h : permN b.count o) : FitP b o ↔ ovP b o ∧ (∀ k ∈ b.kinds, kiP o k) ∧ daP b o := by
  have hd := permN_nodup h
  constructor
  · intro hf
    refine ⟨fun x y hxy => ?_, fun k hk p l r e => (hf p l r e).2.1 k hk, fun i hi z hz => (hf _ _ _ (split_at hi)).2.2 z hz⟩
    obtain ⟨x', y', e, hne, hx, hy⟩ := hb.2.1.1 _ hxy
    cases e
    have mx := permN_of h hx
    have my := permN_of h hy
    obtain ⟨p, r, e⟩ := List.append_of_mem mx
    obtain ⟨h1, h2, h3⟩ := idx_split hd e
    have hyr := (hf p x r e).1 x y hxy rfl
    rw [h1]
    rw [e] at my
    rcases List.mem_append.mp my with z | z
    · exact h2 y z
    · rcases List.mem_cons.mp z with z | z
      · exact absurd z.symm hne
      · exact absurd z hyr
  · rintro ⟨h1, h2, h3⟩ p l r e
    refine ⟨fun x y hxy ex hy => ?_, fun k hk => h2 k hk p l r e, fun z hz => ?_⟩
    · obtain ⟨g1, g2, g3⟩ := idx_split hd e
      have := h1 x y hxy
      have := g3 y hy
      rw [ex] at *
      omega
    · have hl : p.length < o.length := by rw [e, List.length_append, List.length_cons]; omega
      have el : o[p.length] = l := by simp [e]
      have := h3 p.length hl z (by rw [e]; simpa using hz)
      rwa [el] at this
/-- numbers that ascend stand one behind another exactly if last and first are no farther apart than there are -/
theorem span_le : ∀ (x : Int) (t : List Int), (x :: t).Pairwise (· < ·) → x + t.length ≤ (x :: t).getLast (List.cons_ne_nil x t)
  | x, [], _ => by simp
  | x, y :: t, h => by
    rw [List.pairwise_cons] at h
    have := span_le y t h.2
    have h2 := h.1 y List.mem_cons_self
    rw [List.getLast_cons (List.cons_ne_nil y t), List.length_cons]
    omega
theorem span_iff : ∀ (x : Int) (t : List Int), (x :: t).Pairwise (· < ·) → ((x :: t).getLast (List.cons_ne_nil x t) = x + t.length ↔ ∀ v, x ≤ v → v ≤ (x :: t).getLast (List.cons_ne_nil x t) → v ∈ x :: t)
  | x, [], _ => by
    simp only [List.getLast_singleton, List.length_nil, List.mem_singleton]
    exact ⟨fun _ v h1 h2 => by omega, fun _ => by omega⟩
  | x, y :: t, h => by
    rw [List.pairwise_cons] at h
    have ih := span_iff y t h.2
    have hle := span_le y t h.2
    have hxy := h.1 y List.mem_cons_self
    rw [List.getLast_cons (List.cons_ne_nil y t), List.length_cons]
    constructor
    · intro e v h1 h2
      by_cases hv : v = x
      · rw [hv]; exact List.mem_cons_self
      · exact List.mem_cons_of_mem _ (ih.mp (by omega) v (by omega) h2)
    · intro hv
      have hy : x + 1 ∈ x :: y :: t := hv (x + 1) (by omega) (by omega)
      have ey : y = x + 1 := by
        rcases List.mem_cons.mp hy with z | z
        · omega
        · rcases List.mem_cons.mp z with z | z
          · omega
          · have := (List.pairwise_cons.mp h.2).1 _ z
            omega
      have := ih.mpr fun v h1 h2 => by
        rcases List.mem_cons.mp (hv v (by omega) h2) with z | z
        · omega
        · exact z
      omega
theorem idxOf_inj {l : List Int} {x y : Int} (hx : x ∈ l) (hy : y ∈ l) (h : l.idxOf x = l.idxOf y) : x = y := by
  have h1 := List.getElem_idxOf (List.idxOf_lt_length_of_mem hx)
  have h2 := List.getElem_idxOf (List.idxOf_lt_length_of_mem hy)
  simp only [h] at h1
  exact h1.symm.trans h2
/-- the places of a kind, ascending -/
theorem spots_iff {o k ns : List Int} (hd : o.Nodup) (hk : k.Nodup) (hko : ∀ x ∈ k, x ∈ o) (hp : ns.Perm (k.map fun x => (o.idxOf x : Int))) (hs : ns.Pairwise (· ≤ ·)) {x : Int} {t : List Int} (e : ns = x :: t) :
    (ns.getLast (by rw [e]; exact List.cons_ne_nil x t) = x + t.length) ↔ kiP o k := by
  have hnd : (k.map fun x => (o.idxOf x : Int)).Nodup := by
    unfold List.Nodup
    rw [List.pairwise_map]
    refine List.Pairwise.imp_of_mem (fun {a c} ha hc hne e => hne ?_) hk
    exact idxOf_inj (hko a ha) (hko c hc) (by omega)
  have hlt : ns.Pairwise (· < ·) := (hs.and (hp.nodup_iff.mpr hnd)).imp fun ⟨h1, h2⟩ => by omega
  subst e
  rw [span_iff x t hlt]
  have mem : ∀ v, v ∈ x :: t ↔ ∃ z ∈ k, (o.idxOf z : Int) = v := fun v => by rw [hp.mem_iff, List.mem_map]
  have lo : ∀ z ∈ k, x ≤ (o.idxOf z : Int) := fun z hz => by
    rcases List.mem_cons.mp ((mem _).mpr ⟨z, hz, rfl⟩) with h | h
    · omega
    · have := (List.pairwise_cons.mp hlt).1 _ h
      omega
  have hi : ∀ z ∈ k, (o.idxOf z : Int) ≤ (x :: t).getLast (List.cons_ne_nil x t) := fun z hz => by
    have hm := (mem _).mpr ⟨z, hz, rfl⟩
    have e := List.dropLast_concat_getLast (List.cons_ne_nil x t)
    have hpw := hlt
    rw [← e] at hm hpw
    rw [List.pairwise_append] at hpw
    rcases List.mem_append.mp hm with h | h
    · have := hpw.2.2 _ h _ (List.mem_singleton_self _)
      omega
    · rw [List.mem_singleton.mp h]
      exact Int.le_refl _
  constructor
  · rintro h p l r e ⟨z, hz, hzk⟩ hl z' hz' hzk'
    obtain ⟨g1, g2, g3⟩ := idx_split hd e
    have a1 := g2 z hz
    have a2 := g3 z' hz'
    have a3 := lo z hzk
    have a4 := hi z' hzk'
    obtain ⟨w, hw, ew⟩ := (mem _).mp (h (p.length : Int) (by omega) (by omega))
    have : w = l := idxOf_inj (hko w hw) (by rw [e]; simp) (by rw [g1]; omega)
    exact hl (this ▸ hw)
  · intro h v h1 h2
    refine Classical.byContradiction fun hv => ?_
    obtain ⟨z, hz, ez⟩ := (mem x).mp List.mem_cons_self
    obtain ⟨z', hz', ez'⟩ := (mem _).mp (List.getLast_mem (List.cons_ne_nil x t))
    have hlz' := List.idxOf_lt_length_of_mem (hko z' hz')
    have n1 : v ≠ x := fun e => hv (by rw [e]; exact List.mem_cons_self)
    have n2 : v ≠ (x :: t).getLast (List.cons_ne_nil x t) := fun e => hv (by rw [e]; exact List.getLast_mem _)
    have hvl : v.toNat < o.length := by omega
    have e := split_at hvl
    have nk : o[v.toNat] ∉ k := fun hk => hv ((mem v).mpr ⟨_, hk, by rw [idxOf_getElem' hd hvl]; omega⟩)
    refine h _ _ _ e ⟨z, ?_, hz⟩ nk z' ?_ hz'
    · have : o[o.idxOf z]'(List.idxOf_lt_length_of_mem (hko z hz)) = z := List.getElem_idxOf _
      rw [← this]
      exact List.mem_take_iff_getElem.mpr ⟨o.idxOf z, by have := List.idxOf_lt_length_of_mem (hko z hz); omega, rfl⟩
    · have : o[o.idxOf z'] = z' := List.getElem_idxOf _
      rw [← this]
      exact List.mem_drop_iff_getElem.mpr ⟨o.idxOf z' - (v.toNat + 1), by omega, by congr 1; omega⟩
theorem map_get {α β : Type} {f : α → β} {l : List α} {i : Nat} {d : β} (h : (l.map f)[i]? = some d) : ∃ k, l[i]? = some k ∧ d = f k := by
  rw [List.getElem?_map] at h
  cases e : l[i]? with
  | none => rw [e] at h; cases h
  | some a => rw [e] at h; cases h; exact ⟨a, rfl, rfl⟩
theorem any_congr' {α : Type} {f g : α → Bool} : ∀ {l : List α}, (∀ x ∈ l, f x = g x) → l.any f = l.any g
  | [], _ => rfl
  | x :: l, h => by rw [List.any_cons, List.any_cons, h x List.mem_cons_self, any_congr' fun y hy => h y (List.mem_cons_of_mem _ hy)]
theorem rd_dicM {S : MS} {a : Addr} {ks : List Key} {ds : List D} (h : S a = some (.dic ks ds)) : rd S (.ref a) = .dic ks ds := by
  show rdM a (S a) = _
  rw [h]
  rfl
theorem date_at {b : Bk} (hb : bkOk b) {o : Int} (h : 0 ≤ o ∧ o < b.count) : bound (earlyOf b o) ∧ bound (lateOf b o) ∧ (b.dates.map fun p => D.tup [p.1, p.2]).getD o.toNat .non = .tup [earlyOf b o, lateOf b o] := by
  have h1 := hb.2.2.1.1
  have hi : o.toNat < b.dates.length := by omega
  have e : b.dates.getD o.toNat (.non, .non) = b.dates[o.toNat] := by rw [List.getD_eq_getElem?_getD, List.getElem?_eq_getElem hi]; rfl
  have hd := hb.2.2.1.2 _ (List.getElem_mem hi)
  unfold earlyOf lateOf
  rw [e]
  exact ⟨hd.1, hd.2.1, getD_map (f := fun p : D × D => D.tup [p.1, p.2]) hi⟩
theorem rd_dicT {S : MS} {a : Addr} {ks : List NestedKey} {ds : List D} (h : S a = some (.dicT ks ds)) : rd S (.ref a) = .dicT ks ds := by
  show rdM a (S a) = _
  rw [h]
  rfl
theorem nodup_len_range {c : Int} {l : List Int} (h1 : l.Nodup) (h2 : ∀ x ∈ l, 0 ≤ x ∧ x < c) : l.length ≤ c.toNat := by
  have := free_len h1 h2
  omega
theorem ran_getD {c a : Int} {f : Int → D} (h : 0 ≤ a ∧ a < c) : ((ranI c).map f).getD a.toNat .non = f a := by
  have h1 : a.toNat < (ranI c).length := by rw [ranI_length]; omega
  rw [getD_map h1]
  have e : (ranI c)[a.toNat]? = some a := by
    unfold ranI
    rw [List.getElem?_map, List.getElem?_range (by omega)]
    exact congrArg some (show ((a.toNat : Nat) : Int) = a by omega)
  rw [List.getElem?_eq_getElem h1] at e
  rw [Option.some.inj e]
theorem fit_false {b : Bk} (hb : bkOk b) {o : List Int} (h : permN b.count o) (n : ¬ (ovP b o ∧ (∀ k ∈ b.kinds, kiP o k) ∧ daP b o)) : stepOk b [] o = false := Bool.eq_false_iff.mpr fun e => n ((fit_iff hb h).mp ((stepOk_fit hb h).mp e))
/-- a statement by what holds behind it -/
theorem mergeS {w : WS} {De : DEnds} {ρ : Rho} {S : MS} (P : Rho → MS → Prop) (h : ∀ N : Rho → MS → Prop, (∀ ρ' S', P ρ' S' → N ρ' S') → w { De with nx := N } ρ S) (q : ∀ ρ' S', P ρ' S' → De.nx ρ' S') : w De ρ S := h De.nx q
theorem mergeQ {w u : WS} {De : DEnds} {ρ : Rho} {S : MS} (P : Rho → MS → Prop) (h : ∀ N : Rho → MS → Prop, (∀ ρ' S', P ρ' S' → N ρ' S') → w { De with nx := N } ρ S) (q : ∀ ρ' S', P ρ' S' → u De ρ' S') : wSeq w u De ρ S := h (u De) q
theorem hasN_nkI {r : List Int} {os : List (List Int)} : hasN (nkI r) (os.map nkI) = decide (r ∈ os) := by
  unfold hasN
  rw [List.any_map, Bool.eq_iff_iff, List.any_eq_true, decide_eq_true_eq]
  constructor
  · rintro ⟨x, hx, e⟩
    rw [← nkI_inj (of_decide_eq_true e)]
    exact hx
  · exact fun h => ⟨r, h, decide_eq_true rfl⟩
theorem dateOk_non : dateOk (.non, .non) := ⟨.inl rfl, .inl rfl, fun i j h => nomatch h⟩
theorem map_nkD_nkI (os : List (List Int)) : (os.map nkI).map nkD = os.map tupI := by
  rw [List.map_map]
  exact List.map_congr_left fun r _ => nkD_nkI r
theorem sort_rows_lt {os : List (List Int)} (h : os.Nodup) : (os.mergeSort fun a b => !decide (b < a)).Pairwise (· < ·) := by
  have h1 : (os.mergeSort fun a b => !decide (b < a)).Pairwise (fun a b => (!decide (b < a)) = true) := List.pairwise_mergeSort (fun a b c h1 h2 => by
    simp only [Bool.not_eq_true', decide_eq_false_iff_not] at h1 h2 ⊢
    exact fun h => (List.not_lt.mp h1 |> fun x => List.not_lt.mp h2 |> fun y => absurd h (List.not_lt.mpr (List.le_trans x y)))) (fun a b => by
    simp only [Bool.or_eq_true, Bool.not_eq_true', decide_eq_false_iff_not]
    rcases List.le_total a b with h | h
    · exact .inl (List.not_lt.mpr h)
    · exact .inr (List.not_lt.mpr h)) os
  have h2 : (os.mergeSort fun a b => !decide (b < a)).Nodup := (List.mergeSort_perm _ _).nodup_iff.mpr h
  refine (h1.and h2).imp fun {a b} ⟨h1, h2⟩ => ?_
  simp only [Bool.not_eq_true', decide_eq_false_iff_not] at h1
  exact Classical.byContradiction fun h => h2 (List.le_antisymm (List.not_lt.mp h1) (List.not_lt.mp h))
def specD (b : Bk) : D := .tup [.int b.count, .tup (b.overs.map tupI), .tup (b.dates.map fun p => .tup [p.1, p.2]), .tup (b.kinds.map tupI)]
theorem rd_st {S : MS} {a : Addr} {l : List D} (h : S a = some (.lst l)) : rd S (.ref a) = .lst l := rd_ref h
theorem ords_len {c : Int} (hc : c ≤ 6) : ∀ k : Nat, k ≤ 6 → (ords c k).length ≤ 46656 := by
  have h : ∀ k, (ords c k).length ≤ 6 ^ k := fun k => by
    induction k with
    | zero => exact Nat.le_refl 1
    | succ k ih =>
      show ((ords c k).flatMap fun p => (freeL c p).map fun l => p ++ [l]).length ≤ 6 ^ k * 6
      rw [List.length_flatMap]
      refine Nat.le_trans (sum_le_mul (m := 6) fun p hp => ?_) (Nat.mul_le_mul_right _ ih)
      have : (freeL c p).length ≤ (ranI c).length := List.length_filter_le _ _
      rw [ranI_length] at this
      rw [List.length_map]
      omega
  exact fun k hk => Nat.le_trans (h k) (Nat.le_trans (Nat.pow_le_pow_right (by decide) hk) (by decide))
/-! plans -/
theorem ite_any {c : Prop} [i : Decidable c] {p q : Prop} (h1 : c → p) (h2 : ¬ c → q) : if c then p else q := by
  split
  · rename_i h; exact h1 h
  · rename_i h; exact h2 h
theorem rd_lstR {S : MS} {a : Addr} {ds : List D} (h : S a = some (.lst ds)) : rd S (.ref a) = .lst ds := by
  show rdM a (S a) = _
  rw [h]
  rfl
theorem z_ixg {ds : List D} {i : Nat} {d : D} {S : MS} {Q : KV2} (h : ds[i]? = some d) : wIx (.lst ds) (.int (i : Int)) S Q ↔ Q d S := by
  have hl := (List.getElem?_eq_some_iff.mp h).1
  rw [z_ix_lt (by omega) (by omega), show ((i : Nat) : Int).toNat = i by omega, List.getD_eq_getElem?_getD, h]
  rfl
def stI (s : Bool) : Int := if s = true then 1 else 0
theorem z_int_blK {b : Bool} {S : MS} {Q : KV2} : cInt (.bl b) S Q ↔ Q (.int (stI b)) S := Iff.rfl
theorem z_ixtg {ds : List D} {i : Nat} {d : D} {S : MS} {Q : KV2} (h : ds[i]? = some d) : wIx (.tup ds) (.int (i : Int)) S Q ↔ Q d S := by
  have hl := (List.getElem?_eq_some_iff.mp h).1
  rw [z_ixt_lt (by omega) (by omega), show ((i : Nat) : Int).toNat = i by omega, List.getD_eq_getElem?_getD, h]
  rfl
abbrev Bd : Type := List (Int × Int)
def pD (p : Int × Int) : D := .tup [.int p.1, .int p.2]
def bdD (bs : Bd) : D := .tup (bs.map pD)
def kP (e : Bd × Nat) : NestedKey := .tup [.tup (e.1.map fun p => .tup [.num p.1, .num p.2]), .num (e.2 : Int)]
theorem nkD_ps : ∀ bs : Bd, nkDs (bs.map fun p => .tup [.num p.1, .num p.2]) = bs.map pD
  | [] => rfl
  | p :: r => by rw [List.map_cons, nkDs, nkD_ps r]; rfl
theorem nkD_kP (e : Bd × Nat) : nkD (kP e) = .tup [bdD e.1, .int (e.2 : Int)] := by
  unfold kP
  simp only [nkD, nkDs, nkD_ps]
  rfl
theorem kP_inj {e e' : Bd × Nat} (h : kP e = kP e') : e = e' := by
  unfold kP at h
  simp only [NestedKey.tup.injEq, List.cons.injEq, NestedKey.num.injEq, and_true] at h
  obtain ⟨h1, h2⟩ := h
  have h3 : ∀ (x y : Bd), (x.map fun p => NestedKey.tup [.num p.1, .num p.2]) = (y.map fun p => NestedKey.tup [.num p.1, .num p.2]) → x = y := by
    intro x
    induction x with
    | nil => intro y h; cases y with
      | nil => rfl
      | cons _ _ => cases h
    | cons p x ih => intro y h; cases y with
      | nil => cases h
      | cons q y =>
        simp only [List.map_cons, List.cons.injEq, NestedKey.tup.injEq, NestedKey.num.injEq, and_true] at h
        obtain ⟨⟨h1, h2⟩, h3⟩ := h
        rw [ih y h3, show p = q from Prod.ext h1 h2]
  exact Prod.ext (h3 _ _ h1) (by omega)
theorem noTx_ps : ∀ bs : Bd, noTxs (bs.map fun p => NestedKey.tup [.num p.1, .num p.2]) = true
  | [] => rfl
  | p :: r => by rw [List.map_cons, noTxs, noTx_ps r]; rfl
theorem dep_ps : ∀ bs : Bd, NestedKey.depthAll (bs.map fun p => NestedKey.tup [.num p.1, .num p.2]) ≤ 1
  | [] => by rw [List.map_nil, NestedKey.depthAll]; omega
  | p :: r => by
    rw [List.map_cons, NestedKey.depthAll]
    have := dep_ps r
    have h2 : (NestedKey.tup [.num p.1, .num p.2]).depth = 1 := rfl
    rw [h2]
    omega
theorem okN_kP (e : Bd × Nat) : okN (kP e) = true := by
  have h1 : noTx (kP e) = true := by
    unfold kP
    rw [noTx, noTxs, noTx, noTx_ps]
    rfl
  have h2 : (kP e).depth ≤ 8 := by
    have := dep_ps e.1
    unfold kP
    rw [NestedKey.depth, NestedKey.depthAll, NestedKey.depthAll, NestedKey.depth, NestedKey.depth, NestedKey.depthAll]
    omega
  unfold okN
  rw [h1, decide_eq_true h2]
  rfl
def narE (ov : List (List Int)) (st : Int) (l : Nat) (t : Int) (j : Nat) (p : Int × Int) : Int × Int :=
  if j = l then (max t p.1, min t p.2) else (if [(j : Int), (l : Int)] ∈ ov then max p.1 (t + st) else p.1, if [(l : Int), (j : Int)] ∈ ov then min p.2 (t - st) else p.2)
def narL (ov : List (List Int)) (st : Int) (l : Nat) (t : Int) : Nat → Bd → Bd
  | _, [] => []
  | j, p :: r => narE ov st l t j p :: narL ov st l t (j + 1) r
def okBd (bs : Bd) : Bool := bs.all fun p => decide (p.1 ≤ p.2)
def rngI (lo hi : Int) : List Int := (List.range (hi + 1 - lo).toNat).map fun (i : Nat) => lo + (i : Int)
def cV (ov : List (List Int)) (st : Int) : Nat → Nat → Bd → Int
  | 0, _, _ => 1
  | _ + 1, _, [] => 0
  | n + 1, f, p :: r => ((rngI p.1 p.2).map fun t => if okBd (narL ov st f t (f + 1) r) = true then cV ov st n (f + 1) (narL ov st f t (f + 1) r) else 0).sum
def lowB (d : D) (x : Int) : Int := match d with
  | .int e => max x e
  | _ => x
def highB (d : D) (x : Int) : Int := match d with
  | .int e => min x e
  | _ => x
def baseB (b : Bk) (w : Int × Int) : Bd := b.dates.map fun p => (lowB p.1 w.1, highB p.2 w.2)
structure Pl where
  b : Bk
  ws : Bool
  w : Int × Int
  lk : D
  la : Addr
  da : Addr
def plN : List Str := ["book", "strict", "bounds", "known"]
def bkV (b : Bk) (lk : D) : D := .obj "Book" bkN (bkL b lk)
def plX (P : Pl) : D := .obj "Planner" plN [bkV P.b P.lk, .bl P.ws, .ref P.la, .ref P.da]
def Pl.st (P : Pl) : Int := stI P.ws
def Pl.n (P : Pl) : Nat := P.b.count.toNat
def nar (P : Pl) (bs : Bd) (l : Nat) (t : Int) : Bd := narL P.b.overs P.st l t 0 bs
def narD (P : Pl) (bs : Bd) (l : Nat) (t : Int) : D := if okBd (nar P bs l t) = true then bdD (nar P bs l t) else .non
def winOk (w : Int × Int) : Prop := (-1000 ≤ w.1 ∧ w.2 ≤ 1000) ∧ w.1 ≤ w.2 ∧ w.2 ≤ w.1 + 4
def bkP (b : Bk) : Prop := bkOk b ∧ b.count ≤ 4 ∧ b.overs.length ≤ 1000
def PlOk (P : Pl) : Prop := bkP P.b ∧ winOk P.w
def keyOk (P : Pl) (e : Bd × Nat) : Prop := e.2 ≤ P.n ∧ e.1.length = P.n - e.2 ∧ ∀ p ∈ e.1, P.w.1 ≤ p.1 ∧ p.1 ≤ p.2 ∧ p.2 ≤ P.w.2
def KnOk (P : Pl) (L : List (Bd × Nat)) : Prop := L.Nodup ∧ ∀ e ∈ L, keyOk P e
def vP (P : Pl) (e : Bd × Nat) : D := .int (cV P.b.overs P.st (P.n - e.2) e.2 e.1)
def knM (P : Pl) (L : List (Bd × Nat)) : MO := .dicT (L.map kP) (L.map (vP P))
structure PlAt (S : MS) (P : Pl) : Prop where
  ok : PlOk P
  bd : S P.la = some (.lst ((baseB P.b P.w).map pD))
  kn : ∃ L, KnOk P L ∧ S P.da = some (knM P L)
def PlTo (S : MS) (P : Pl) (R : MS → Prop) : Prop := ∀ L, KnOk P L → R (S.set P.da (knM P L))
def Inv (P : Pl) (bs : Bd) (f : Nat) : Prop := bs.length = P.n ∧ (∀ p ∈ bs, P.w.1 ≤ p.1 ∧ p.1 ≤ p.2 ∧ p.2 ≤ P.w.2) ∧ (∀ i < f, ∀ p, bs[i]? = some p → p.1 = p.2) ∧
  ∀ a b : Nat, [(a : Int), (b : Int)] ∈ P.b.overs → a < f ∨ b < f → ∀ p q, bs[a]? = some p → bs[b]? = some q → P.st ≤ p.1 - q.2
def whV (b : Bk) (w : Int × Int) (s : Bool) : Int := if okBd (baseB b w) = true then cV b.overs (stI s) b.count.toNat 0 (baseB b w) else 0
/-- lowest terms -/
def lowF (x y : Int) : Int × Int := (x / (Int.gcd x y : Int), y / (Int.gcd x y : Int))
def frD (p : Int × Int) : D := .tup [.int p.1, .int p.2]
def frOk (p : Int × Int) : Prop := (-1000000000000 ≤ p.1 ∧ p.1 ≤ 1000000000000) ∧ 0 < p.2 ∧ p.2 ≤ 10000
def rowsB : Bd → List (List Int)
  | [] => [[]]
  | p :: r => (rngI p.1 p.2).flatMap fun t => (rowsB r).map fun s => t :: s
def okO (st : Int) (s : List Int) : List Int → Bool
  | [a, b] => decide (st ≤ s.getD a.toNat 0 - s.getD b.toNat 0)
  | _ => true
def okOv (ov : List (List Int)) (st : Int) (s : List Int) : Bool := ov.all (okO st s)
/-- all plans -/
def evL (b : Bk) (w : Int × Int) (s : Bool) : List (List Int) := (rowsB (baseB b w)).filter (okOv b.overs (stI s))
def cntT (b : Bk) (w : Int × Int) (s : Bool) (l : Nat) (t : Int) : Int := (((evL b w s).filter fun r => decide (r.getD l 0 = t)).length : Int)
def wtV (P : Pl) (l : Nat) (t : Int) : Int := match (baseB P.b P.w)[l]? with
  | none => 0
  | some p => if okBd (baseB P.b P.w) = true ∧ p.1 ≤ t ∧ t ≤ p.2 ∧ okBd (nar P (baseB P.b P.w) l t) = true then cV P.b.overs P.st P.n 0 (nar P (baseB P.b P.w) l t) else 0
def cnt2 (b : Bk) (w : Int × Int) (s : Bool) (l k : Nat) (t u : Int) : Int := (((evL b w s).filter fun r => decide (r.getD l 0 = t) && decide (r.getD k 0 = u)).length : Int)
def plc (t u : Int) : Nat := if u < t then 2 else if t < u then 0 else 1
def cntP (b : Bk) (w : Int × Int) (s : Bool) (l k : Nat) (m : Nat) : Int := (((evL b w s).filter fun r => decide (plc (r.getD l 0) (r.getD k 0) = m)).length : Int)
def csD (f : Nat → Int) : List D := [.int (f 0), .int (f 1), .int (f 2)]
theorem csD_set {f : Nat → Int} {m : Nat} {v : Int} (h : m < 3) : (csD f).set m (.int v) = csD fun n => if n = m then v else f n := by
  match m, h with
  | 0, _ => rfl
  | 1, _ => rfl
  | 2, _ => rfl
theorem csD_get {f : Nat → Int} {m : Nat} (h : m < 3) : (csD f)[m]? = some (.int (f m)) := by
  match m, h with
  | 0, _ => rfl
  | 1, _ => rfl
  | 2, _ => rfl
theorem plc_lt (t u : Int) : plc t u < 3 := by
  unfold plc
  split
  · decide
  · split <;> decide
theorem plc_eq (t u : Int) : 1 + stI (decide (u < t)) - stI (decide (t < u)) = (plc t u : Int) := by
  unfold plc stI
  simp only [decide_eq_true_eq]
  split
  · rw [if_neg (by omega)]; rfl
  · split <;> rfl
def okT (e l : D) (t : Int) : Bool := (match e with | .int x => decide (x ≤ t) | _ => true) && (match l with | .int y => decide (t ≤ y) | _ => true)
def sp_is_integer : DSp := fun ds S Q _ => ∃ x, ds = [x] ∧ plD x = true ∧ Q (.bl (isInt x)) S
def sp_is_within : DSp := fun ds S Q _ => ∃ x lo hi, ds = [x, .int lo, .int hi] ∧ plD x = true ∧ Q (.bl (isWithin x lo hi)) S
def sp_is_number : DSp := fun ds S Q _ => ∃ n : Int, ds = [.int n] ∧ Q (.bl (decide (0 ≤ n))) S
def sp_is_tuple : DSp := fun ds S Q _ => ∃ x lo hi, ds = [x, .int lo, .int hi] ∧ plD x = true ∧ Q (.bl (isTup x lo hi)) S
def sp_is_lot : DSp := fun ds S Q _ => ∃ (r : List Int) (many : Int), ds = [tupI r, .int many] ∧ r.length ≤ 1000 ∧ (r.Pairwise (· < ·) ∧ ∀ x ∈ r, 0 ≤ x ∧ x < many) ∧ Q (.bl true) S
def sp_lowest : DSp := fun ds S Q _ => ∃ x y : Int, ds = [.int x, .int y] ∧ 0 ≤ x ∧ (0 < y ∧ y < 1000000000) ∧ Q (frD (lowF x y)) S
def sp_is_pair : DSp := fun ds S Q _ => ∃ (c : Int) (y z : D), ds = [.int c, .tup [y, z]] ∧ pu y = true ∧ pu z = true ∧ Q (.bl (isWithin y 0 (c - 1) && isWithin z 0 (c - 1) && !eqD y z)) S
def sp_are_overs : DSp := fun ds S Q _ => ∃ (c : Int) (rs : List (List Int)), ds = [.int c, .tup (rs.map tupI)] ∧ rs.length ≤ 1000 ∧ (∀ r ∈ rs, ∃ x y : Int, r = [x, y] ∧ x ≠ y ∧ (0 ≤ x ∧ x < c) ∧ (0 ≤ y ∧ y < c)) ∧ rs.Pairwise (· < ·) ∧ Q (.bl true) S
def sp_is_bound : DSp := fun ds S Q _ => ∃ d, ds = [d] ∧ bound d ∧ Q (.bl true) S
def sp_is_date : DSp := fun ds S Q _ => ∃ p, ds = [.tup [Prod.fst p, Prod.snd p]] ∧ dateOk p ∧ Q (.bl true) S
def sp_is_kind : DSp := fun ds S Q _ => ∃ (c : Int) (r : List Int), ds = [.int c, tupI r] ∧ r.length ≤ 1000 ∧ (r.Pairwise (· < ·) ∧ ∀ x ∈ r, 0 ≤ x ∧ x < c) ∧ 1 < r.length ∧ Q (.bl true) S
def sp_is_window : DSp := fun ds S Q _ => ∃ w : Int × Int, ds = [pD w] ∧ winOk w ∧ Q (.bl true) S
def sp_check_window : DSp := fun ds S Q _ => ∃ (w : Int × Int) (s : Bool), ds = [pD w, .bl s] ∧ winOk w ∧ Q .non S
def sp_check_small : DSp := fun ds S Q _ => ∃ (b : Bk) (lk : D), ds = [bkV b lk] ∧ b.count ≤ 4 ∧ Q .non S
def sp_many_plans : DSp := fun ds S Q _ => ∃ (b : Bk) (lk : D) (w : Int × Int) (s : Bool), ds = [bkV b lk, pD w, .bl s] ∧ bkP b ∧ winOk w ∧ Q (.int ((evL b w s).length : Int)) S
def sp_plan_at : DSp := fun ds S Q _ => ∃ (b : Bk) (lk : D) (w : Int × Int) (s : Bool) (m : Nat), ds = [bkV b lk, pD w, .bl s, .int (m : Int)] ∧ bkP b ∧ winOk w ∧ Q (match (evL b w s)[m]? with | some x => tupI x | none => .non) S
def sp_plan_chance : DSp := fun ds S Q _ => ∃ (b : Bk) (lk : D) (w : Int × Int) (s : Bool) (l : Nat) (t : Int), ds = [bkV b lk, pD w, .bl s, .int (l : Int), .int t] ∧ bkP b ∧ winOk w ∧ l < b.count.toNat ∧ (0 < (evL b w s).length ∧ (evL b w s).length ≤ 10000) ∧ Q (frD (lowF (cntT b w s l t) ((evL b w s).length : Int))) S
def sp_common : DSp := fun ds S Q _ => ∃ x y : Int, ds = [.int x, .int y] ∧ Q (.int (Int.gcd x y)) S
def sp_reduced : DSp := fun ds S Q _ => ∃ x y : Int, ds = [.int x, .int y] ∧ (0 < y ∧ y < 1000000000) ∧ Q (frD (lowF x y)) S
def sp_plus : DSp := fun ds S Q _ => ∃ a b : Int × Int, ds = [frD a, frD b] ∧ frOk a ∧ frOk b ∧ Q (frD (lowF (a.1 * b.2 + b.1 * a.2) (a.2 * b.2))) S
def sp_product : DSp := fun ds S Q _ => ∃ a b : Int × Int, ds = [frD a, frD b] ∧ frOk a ∧ frOk b ∧ Q (frD (lowF (a.1 * b.1) (a.2 * b.2))) S
def sp_planner_for : DSp := fun ds S Q _ => ∃ (b : Bk) (lk : D) (w : Int × Int) (s : Bool) (ls : List Int), ds = [bkV b lk, pD w, .bl s, tupI ls] ∧ bkP b ∧ winOk w ∧ ((∃ a, ls = [a] ∧ 0 ≤ a ∧ a < b.count) ∨ ∃ x y, ls = [x, y] ∧ x ≠ y ∧ (0 ≤ x ∧ x < b.count) ∧ 0 ≤ y ∧ y < b.count) ∧ 0 < (evL b w s).length ∧
  ∀ la da S3, DL.Sub S S3 → S la = none → S da = none → PlAt S3 ⟨b, s, w, lk, la, da⟩ → Q (plX ⟨b, s, w, lk, la, da⟩) S3
def sp_shares_in : DSp := fun ds S Q _ => ∃ (P : Pl) (l : Nat), ds = [plX P, pD P.w, .int (l : Int)] ∧ PlAt S P ∧ l < P.n ∧ (0 < (evL P.b P.w P.ws).length ∧ (evL P.b P.w P.ws).length ≤ 10000) ∧ PlTo S P (Q (.lst ((rngI P.w.1 P.w.2).map fun t => frD (lowF (cntT P.b P.w P.ws l t) ((evL P.b P.w P.ws).length : Int)))))
def sp_plan_times : DSp := fun ds S Q _ => ∃ (b : Bk) (lk : D) (w : Int × Int) (s : Bool) (l : Nat), ds = [bkV b lk, pD w, .bl s, .int (l : Int)] ∧ bkP b ∧ winOk w ∧ l < b.count.toNat ∧ (0 < (evL b w s).length ∧ (evL b w s).length ≤ 10000) ∧ Q (.tup ((rngI w.1 w.2).map fun t => frD (lowF (cntT b w s l t) ((evL b w s).length : Int)))) S
def sp_plan_mean : DSp := fun ds S Q _ => ∃ (b : Bk) (lk : D) (w : Int × Int) (s : Bool) (l : Nat), ds = [bkV b lk, pD w, .bl s, .int (l : Int)] ∧ bkP b ∧ winOk w ∧ l < b.count.toNat ∧ (0 < (evL b w s).length ∧ (evL b w s).length ≤ 10000) ∧ Q (frD (lowF ((evL b w s).map fun r => r.getD l 0).sum ((evL b w s).length : Int))) S
def sp_with_both : DSp := fun ds S Q _ => ∃ (P : Pl) (l k : Nat) (t u : Int), ds = [plX P, .int (l : Int), .int t, .int (k : Int), .int u] ∧ PlAt S P ∧ l < P.n ∧ k < P.n ∧ 0 < (evL P.b P.w P.ws).length ∧ PlTo S P (Q (.int (cnt2 P.b P.w P.ws l k t u)))
def sp_plan_pair : DSp := fun ds S Q _ => ∃ (b : Bk) (lk : D) (w : Int × Int) (s : Bool) (l k : Nat), ds = [bkV b lk, pD w, .bl s, .int (l : Int), .int (k : Int)] ∧ bkP b ∧ winOk w ∧ l < b.count.toNat ∧ k < b.count.toNat ∧ l ≠ k ∧ (0 < (evL b w s).length ∧ (evL b w s).length ≤ 10000) ∧ Q (.tup ([0, 1, 2].map fun m => frD (lowF (cntP b w s l k m) ((evL b w s).length : Int)))) S
def sp_likeliest_plan_time : DSp := fun ds S Q _ => ∃ (b : Bk) (lk : D) (w : Int × Int) (s : Bool) (l : Nat), ds = [bkV b lk, pD w, .bl s, .int (l : Int)] ∧ bkP b ∧ winOk w ∧ l < b.count.toNat ∧ (0 < (evL b w s).length ∧ (evL b w s).length ≤ 10000) ∧
  ∀ k : Nat, k < (rngI w.1 w.2).length → (∀ j < (rngI w.1 w.2).length, cntT b w s l (w.1 + (j : Int)) ≤ cntT b w s l (w.1 + (k : Int))) → (∀ j < k, cntT b w s l (w.1 + (j : Int)) < cntT b w s l (w.1 + (k : Int))) → Q (.tup [.int (w.1 + (k : Int)), frD (lowF (cntT b w s l (w.1 + (k : Int))) ((evL b w s).length : Int))]) S
def sp__law_hand : DSp := handSpO JH
def sp__law_draw : DSp := drawSpO JH
def sp__law_any : DSp := fun ds S Q _ => ∃ (t : Addr) (xs : List D), ds = [.ref t, .lst xs] ∧ S t = some (.opq (opq2 JH)) ∧ (0 < xs.length ∧ xs.length < 100000) ∧ ∀ x ∈ xs, Q x S
def sp__law_is : DSp := fun ds S Q _ => ∃ n : Int, ds = [.int n, .int n] ∧ Q (.bl true) S
def sp__law_mixed : DSp := fun ds S Q _ => ∃ (t : Addr) (n : Int), ds = [.ref t, .int n] ∧ S t = some (.opq (opq2 JH)) ∧ (0 ≤ n ∧ n ≤ 16) ∧ ∀ order, permN n order → Q (.lst (order.map D.int)) S
def sp__law_parts : DSp := fun ds S Q _ => ∃ (t : Addr) (lo hi : Int) (hd hk : Bool), ds = [.ref t, .int lo, .int hi, .bl hd, .bl hk] ∧ S t = some (.opq (opq2 JH)) ∧ (2 ≤ lo ∧ lo ≤ hi ∧ hi ≤ 6) ∧
  ∀ b : Bk, (lo ≤ b.count ∧ b.count ≤ hi) → bkOk b → b.overs.length ≤ 1000 → (hd = false → ∀ p ∈ b.dates, p = (.non, .non)) → (hk = false → b.kinds = []) → Q (specD b) S
def sp__law_unlike : DSp := fun ds S Q _ => ∃ x0 x1 : D, ds = [x0, x1] ∧ False
def sp__law_plans : DSp := fun ds S Q _ => ∃ (b : Bk) (w : Int × Int) (s : Bool), ds = [specD b, pD w, .bl s] ∧ bkP b ∧ winOk w ∧ Q (.lst ((evL b w s).map tupI)) S
def sp__law_low : DSp := fun ds S Q _ => ∃ x y : Int, ds = [.int x, .int y] ∧ (0 < y ∧ y < 1000000000) ∧ Q (frD (lowF x y)) S
def sp_law : DSp := fun ds S Q _ => ∃ ns : List Int, ds = [.lst (ns.map D.int)] ∧ (∀ a m, S a = some m → isOpq m = false) ∧ Q (.bl true) S
def sp_Book___init__ : DSp := fun ds S Q _ => ∃ (a : Addr) (b : Bk), ds = [.ref a, .int b.count, .tup (b.overs.map tupI), .tup (b.dates.map fun p => .tup [p.1, p.2]), .tup (b.kinds.map tupI)] ∧ S a = some (.ins "Book" [] []) ∧ bkOk b ∧ b.overs.length ≤ 1000 ∧
  ∀ d, S d = none → Q .non ((S.set a (.ins "Book" bkN (bkL b (.ref d)))).set d (.dic [] []))
def sp_Planner___init__ : DSp := fun ds S Q _ => ∃ (a : Addr) (b : Bk) (lk : D) (w : Int × Int) (ws : Bool), ds = [.ref a, bkV b lk, pD w, .bl ws] ∧ S a = some (.ins "Planner" [] []) ∧ bkP b ∧
  ∀ la da, S la = none → S da = none → la ≠ da → Q .non (((S.set a (.ins "Planner" plN [bkV b lk, .bl ws, .ref la, .ref da])).set la (.lst ((baseB b w).map pD))).set da (.dicT [] []))
def sp_Planner_narrowed : DSp := fun ds S Q _ => ∃ (P : Pl) (bs : Bd) (l : Nat) (t : Int), ds = [plX P, bdD bs, .int (l : Int), .int t] ∧ PlOk P ∧ bs.length = P.n ∧ l < P.n ∧ Q (narD P bs l t) S
def sp_Planner_many : Nat → DSp
  | 0 => fun _ _ _ _ => False
  | n + 1 => fun ds S Q _ => ∃ (P : Pl) (bs : Bd) (f : Nat), ds = [plX P, bdD bs, .int (f : Int)] ∧ PlAt S P ∧ Inv P bs f ∧ f ≤ P.n ∧ P.n - f ≤ n ∧ PlTo S P (Q (.int (cV P.b.overs P.st (P.n - f) f (bs.drop f))))
def sp_Planner_whole : DSp := fun ds S Q _ => ∃ (P : Pl), ds = [plX P] ∧ PlAt S P ∧ PlTo S P (Q (.int ((evL P.b P.w P.ws).length : Int)))
def sp_Planner_at : DSp := fun ds S Q _ => ∃ (P : Pl) (m : Nat) (x : List Int), ds = [plX P, .int (m : Int)] ∧ PlAt S P ∧ (evL P.b P.w P.ws)[m]? = some x ∧ PlTo S P (Q (tupI x))
def sp_Planner_with_time : DSp := fun ds S Q _ => ∃ (P : Pl) (l : Nat) (t : Int), ds = [plX P, .int (l : Int), .int t] ∧ PlAt S P ∧ l < P.n ∧ PlTo S P (Q (.int (cntT P.b P.w P.ws l t)))
/-! bounds that are narrowed -/
theorem narL_get {ov : List (List Int)} {st : Int} {l : Nat} {t : Int} : ∀ {bs : Bd} {j i : Nat}, (narL ov st l t j bs)[i]? = (bs[i]?).map (narE ov st l t (j + i))
  | [], j, i => by simp [narL]
  | p :: r, j, 0 => by simp [narL]
  | p :: r, j, i + 1 => by
    rw [narL, List.getElem?_cons_succ, List.getElem?_cons_succ, narL_get]
    congr 2
    omega
theorem narL_len {ov : List (List Int)} {st : Int} {l : Nat} {t : Int} : ∀ {bs : Bd} {j : Nat}, (narL ov st l t j bs).length = bs.length
  | [], _ => rfl
  | p :: r, j => by rw [narL, List.length_cons, List.length_cons, narL_len]
theorem narL_drop {ov : List (List Int)} {st : Int} {l : Nat} {t : Int} : ∀ {bs : Bd} {j k : Nat}, (narL ov st l t j bs).drop k = narL ov st l t (j + k) (bs.drop k)
  | [], j, k => by simp [narL]
  | p :: r, j, 0 => rfl
  | p :: r, j, k + 1 => by
    rw [narL, List.drop_succ_cons, List.drop_succ_cons, narL_drop]
    congr 1
    omega
theorem narL_nil {st : Int} {l : Nat} {t : Int} {bs : Bd} {p : Int × Int} (h : bs[l]? = some p) : narL [] st l t 0 bs = bs.set l (max t p.1, min t p.2) := by
  refine List.ext_getElem? fun i => ?_
  rw [narL_get, List.getElem?_set]
  by_cases e : l = i
  · subst e
    rw [h, if_pos rfl, if_pos (List.getElem?_eq_some_iff.mp h).1]
    simp [narE]
  · rw [if_neg e]
    have : ∀ p, narE [] st l t (0 + i) p = p := fun p => by
      unfold narE
      rw [if_neg (by omega), if_neg (by simp), if_neg (by simp)]
    cases bs[i]? with
    | none => rfl
    | some p => rw [Option.map_some, this]
theorem pair_eq {a b c d : Int} : ([a, b] : List Int) = [c, d] ↔ a = c ∧ b = d := by simp
theorem narE_ne {O : List (List Int)} {st : Int} {l j : Nat} {t : Int} {p : Int × Int} (h : j ≠ l) : narE O st l t j p = (if [(j : Int), (l : Int)] ∈ O then max p.1 (t + st) else p.1, if [(l : Int), (j : Int)] ∈ O then min p.2 (t - st) else p.2) := if_neg h
theorem narE_l {O : List (List Int)} {st : Int} {l : Nat} {t : Int} {p : Int × Int} : narE O st l t l p = (max t p.1, min t p.2) := if_pos rfl
theorem mem_sn {O : List (List Int)} {a b x y : Int} (h : ¬ (a = x ∧ b = y)) : ([a, b] ∈ O ++ [[x, y]]) = ([a, b] ∈ O) := by
  rw [eq_iff_iff, List.mem_append, List.mem_singleton, pair_eq]
  exact ⟨fun z => z.resolve_right h, .inl⟩
theorem mem_sn' {O : List (List Int)} {x y : Int} : ([x, y] ∈ O ++ [[x, y]]) = True := by
  rw [eq_iff_iff, List.mem_append, List.mem_singleton]
  exact ⟨fun _ => trivial, fun _ => .inr rfl⟩
theorem narE_sn {O : List (List Int)} {st : Int} {l j : Nat} {t x y : Int} {p : Int × Int} (h1 : ¬ ((j : Int) = x ∧ (l : Int) = y)) (h2 : ¬ ((l : Int) = x ∧ (j : Int) = y)) : narE (O ++ [[x, y]]) st l t j p = narE O st l t j p := by
  unfold narE
  simp only [mem_sn h1, mem_sn h2]
theorem narL_sndU {O : List (List Int)} {st : Int} {l b : Nat} {t : Int} {bs : Bd} {p : Int × Int} (hb : b ≠ l) (h : (narL O st l t 0 bs)[b]? = some p) : narL (O ++ [[(l : Int), (b : Int)]]) st l t 0 bs = (narL O st l t 0 bs).set b (p.1, min p.2 (t - st)) := by
  refine List.ext_getElem? fun i => ?_
  rw [narL_get, List.getElem?_set]
  by_cases e : b = i
  · subst e
    rw [if_pos rfl, if_pos (List.getElem?_eq_some_iff.mp h).1]
    rw [narL_get] at h
    cases hx : bs[b]? with
    | none => rw [hx] at h; cases h
    | some q =>
      rw [hx, Option.map_some, Option.some.injEq, Nat.zero_add, narE_ne hb] at h
      rw [Option.map_some, Option.some.injEq, ← h, Nat.zero_add, narE_ne hb]
      simp only [mem_sn', mem_sn (O := O) (a := (b : Int)) (b := (l : Int)) (x := (l : Int)) (y := (b : Int)) (by omega), if_true]
      refine Prod.ext rfl ?_
      dsimp only
      split <;> omega
  · rw [if_neg e, narL_get]
    cases bs[i]? with
    | none => rfl
    | some p => rw [Option.map_some, Option.map_some, narE_sn (by omega) (by omega)]
theorem narL_fstU {O : List (List Int)} {st : Int} {l a : Nat} {t : Int} {bs : Bd} {p : Int × Int} (hb : a ≠ l) (h : (narL O st l t 0 bs)[a]? = some p) : narL (O ++ [[(a : Int), (l : Int)]]) st l t 0 bs = (narL O st l t 0 bs).set a (max p.1 (t + st), p.2) := by
  refine List.ext_getElem? fun i => ?_
  rw [narL_get, List.getElem?_set]
  by_cases e : a = i
  · subst e
    rw [if_pos rfl, if_pos (List.getElem?_eq_some_iff.mp h).1]
    rw [narL_get] at h
    cases hx : bs[a]? with
    | none => rw [hx] at h; cases h
    | some q =>
      rw [hx, Option.map_some, Option.some.injEq, Nat.zero_add, narE_ne hb] at h
      rw [Option.map_some, Option.some.injEq, ← h, Nat.zero_add, narE_ne hb]
      simp only [mem_sn', mem_sn (O := O) (a := (l : Int)) (b := (a : Int)) (x := (a : Int)) (y := (l : Int)) (by omega), if_true]
      refine Prod.ext ?_ rfl
      dsimp only
      split <;> omega
  · rw [if_neg e, narL_get]
    cases bs[i]? with
    | none => rfl
    | some p => rw [Option.map_some, Option.map_some, narE_sn (by omega) (by omega)]
theorem narL_no {O : List (List Int)} {st : Int} {l : Nat} {x y : Int} {t : Int} {bs : Bd} (h1 : x ≠ l) (h2 : y ≠ l) : narL (O ++ [[x, y]]) st l t 0 bs = narL O st l t 0 bs := by
  refine List.ext_getElem? fun i => ?_
  rw [narL_get, narL_get]
  cases bs[i]? with
  | none => rfl
  | some p => rw [Option.map_some, Option.map_some, narE_sn (by omega) (by omega)]
theorem mx_eq (i j : Int) : (if j > i then j else i) = max i j := by split <;> omega
theorem mn_eq (i j : Int) : (if j < i then j else i) = min i j := by split <;> omega
theorem ixN_n {n i : Nat} (h : i < n) : ixN n (i : Int) = some i := by rw [ixN_nat (by omega) (by omega)]; rfl
theorem getD_map {bs : Bd} {i : Nat} {p : Int × Int} (h : bs[i]? = some p) : (bs.map pD).getD i .non = pD p := by rw [List.getD_eq_getElem?_getD, List.getElem?_map, h]; rfl
theorem z_ixB {bs : Bd} {i : Nat} {p : Int × Int} {S : MS} {Q : KV2} (h : bs[i]? = some p) : wIx (.lst (bs.map pD)) (.int (i : Int)) S Q ↔ Q (pD p) S := by
  have hl := (List.getElem?_eq_some_iff.mp h).1
  rw [z_ix_lt (by omega) (by rw [List.length_map]; omega), show ((i : Nat) : Int).toNat = i by omega, getD_map h]
theorem z_ixtB {bs : Bd} {i : Nat} {p : Int × Int} {S : MS} {Q : KV2} (h : bs[i]? = some p) : wIx (.tup (bs.map pD)) (.int (i : Int)) S Q ↔ Q (pD p) S := by
  have hl := (List.getElem?_eq_some_iff.mp h).1
  rw [z_ixt_lt (by omega) (by rw [List.length_map]; omega), show ((i : Nat) : Int).toNat = i by omega, getD_map h]
theorem fs_book {x1 x2 x3 x4 : D} : fldD "book" plN [x1, x2, x3, x4] = some x1 := rfl
theorem fs_strict {x1 x2 x3 x4 : D} : fldD "strict" plN [x1, x2, x3, x4] = some x2 := rfl
theorem fs_bounds {x1 x2 x3 x4 : D} : fldD "bounds" plN [x1, x2, x3, x4] = some x3 := rfl
theorem fs_known {x1 x2 x3 x4 : D} : fldD "known" plN [x1, x2, x3, x4] = some x4 := rfl
/-! what is so of bounds on the way -/
theorem okBd_iff {bs : Bd} : okBd bs = true ↔ ∀ (i : Nat) (p : Int × Int), bs[i]? = some p → p.1 ≤ p.2 := by
  unfold okBd
  rw [List.all_eq_true]
  constructor
  · intro h i p hp
    exact of_decide_eq_true (h p (List.mem_of_getElem? hp))
  · intro h p hp
    obtain ⟨i, hi⟩ := List.mem_iff_getElem?.mp hp
    exact decide_eq_true (h i p hi)
theorem rngI_mem {lo hi x : Int} : x ∈ rngI lo hi ↔ lo ≤ x ∧ x ≤ hi := by
  unfold rngI
  rw [List.mem_map]
  constructor
  · rintro ⟨i, h, rfl⟩
    have := List.mem_range.mp h
    omega
  · rintro ⟨h1, h2⟩
    exact ⟨(x - lo).toNat, List.mem_range.mpr (by omega), by omega⟩
theorem rngI_len (lo hi : Int) : (rngI lo hi).length = (hi + 1 - lo).toNat := by unfold rngI; rw [List.length_map, List.length_range]
theorem rngI_get {lo hi : Int} {i : Nat} (h : i < (hi + 1 - lo).toNat) : (rngI lo hi)[i]? = some (lo + (i : Int)) := by unfold rngI; simp [h]
theorem rangeD_rng (lo hi : Int) : rangeD lo (hi + 1 - lo).toNat = (rngI lo hi).map D.int := by unfold rangeD rngI; rw [List.map_map]; rfl
theorem narE_le {ov : List (List Int)} {st : Int} {l j : Nat} {t : Int} {p : Int × Int} : p.1 ≤ (narE ov st l t j p).1 ∧ (narE ov st l t j p).2 ≤ p.2 := by
  unfold narE
  split
  · dsimp only
    omega
  · dsimp only
    constructor <;> split <;> omega
theorem nar_get {P : Pl} {bs : Bd} {l : Nat} {t : Int} {i : Nat} : (nar P bs l t)[i]? = (bs[i]?).map (narE P.b.overs P.st l t i) := by
  unfold nar
  rw [narL_get, Nat.zero_add]
theorem nar_some {P : Pl} {bs : Bd} {l : Nat} {t : Int} {i : Nat} {p : Int × Int} (h : (nar P bs l t)[i]? = some p) : ∃ q, bs[i]? = some q ∧ p = narE P.b.overs P.st l t i q := by
  rw [nar_get] at h
  cases e : bs[i]? with
  | none => rw [e] at h; cases h
  | some q => rw [e, Option.map_some, Option.some.injEq] at h; exact ⟨q, rfl, h.symm⟩
theorem ov_nat {b : Bk} (hb : bkOk b) {x y : Int} (h : [x, y] ∈ b.overs) : ∃ i j : Nat, x = i ∧ y = j ∧ i ≠ j ∧ i < b.count.toNat ∧ j < b.count.toNat := by
  obtain ⟨u, v, e, h1, h2, h3⟩ := hb.2.1.1 _ h
  obtain ⟨rfl, rfl⟩ := pair_eq.mp e
  exact ⟨x.toNat, y.toNat, by omega, by omega, by omega, by omega, by omega⟩
theorem Inv.okB {P : Pl} {bs : Bd} {f : Nat} {t : Int} {p : Int × Int} (h : Inv P bs f) (hp : bs[f]? = some p) (ht : p.1 ≤ t ∧ t ≤ p.2) : okBd (nar P bs f t) = okBd (narL P.b.overs P.st f t (f + 1) (bs.drop (f + 1))) := by
  obtain ⟨hl, hw, hs, ho⟩ := h
  have hd : narL P.b.overs P.st f t (f + 1) (bs.drop (f + 1)) = (nar P bs f t).drop (f + 1) := by unfold nar; rw [narL_drop, Nat.zero_add]
  rw [hd, Bool.eq_iff_iff, okBd_iff, okBd_iff]
  constructor
  · intro h i q hq
    rw [List.getElem?_drop] at hq
    exact h _ _ hq
  · intro h i q hq
    by_cases hi : f + 1 ≤ i
    · exact h (i - (f + 1)) q (by rw [List.getElem?_drop, show f + 1 + (i - (f + 1)) = i by omega]; exact hq)
    · obtain ⟨q0, h0, rfl⟩ := nar_some hq
      by_cases e : i = f
      · subst e
        rw [hp] at h0
        cases h0
        rw [narE_l]
        dsimp only
        omega
      · rw [narE_ne e]
        have hle := (hw q0 (List.mem_of_getElem? h0)).2.1
        dsimp only
        have a1 : [(i : Int), (f : Int)] ∈ P.b.overs → P.st ≤ q0.1 - p.2 := fun z => ho i f z (.inl (by omega)) q0 p h0 hp
        have a2 : [(f : Int), (i : Int)] ∈ P.b.overs → P.st ≤ p.1 - q0.2 := fun z => ho f i z (.inr (by omega)) p q0 hp h0
        by_cases c1 : [(i : Int), (f : Int)] ∈ P.b.overs
        · have := a1 c1
          by_cases c2 : [(f : Int), (i : Int)] ∈ P.b.overs
          · have := a2 c2
            rw [if_pos c1, if_pos c2]
            omega
          · rw [if_pos c1, if_neg c2]
            omega
        · by_cases c2 : [(f : Int), (i : Int)] ∈ P.b.overs
          · have := a2 c2
            rw [if_neg c1, if_pos c2]
            omega
          · rw [if_neg c1, if_neg c2]
            omega
theorem Inv.step {P : Pl} {bs : Bd} {f : Nat} {t : Int} {p : Int × Int} (h : Inv P bs f) (hb : bkOk P.b) (hp : bs[f]? = some p) (ht : p.1 ≤ t ∧ t ≤ p.2) (ok : okBd (nar P bs f t) = true) : Inv P (nar P bs f t) (f + 1) := by
  obtain ⟨hl, hw, hs, ho⟩ := h
  have ok := okBd_iff.mp ok
  refine ⟨by unfold nar; rw [narL_len, hl], fun q hq => ?_, fun i hi q hq => ?_, fun a b hab hf q r hq hr => ?_⟩
  · obtain ⟨i, hi⟩ := List.mem_iff_getElem?.mp hq
    have h1 := ok _ _ hi
    obtain ⟨q0, h0, rfl⟩ := nar_some hi
    have h2 := hw q0 (List.mem_of_getElem? h0)
    have h3 := @narE_le P.b.overs P.st f i t q0
    omega
  · have h1 := ok _ _ hq
    obtain ⟨q0, h0, rfl⟩ := nar_some hq
    by_cases e : i = f
    · subst e
      rw [narE_l] at h1 ⊢
      rw [hp] at h0
      cases h0
      dsimp only at h1 ⊢
      omega
    · have h2 := hs i (by omega) q0 h0
      have h3 := @narE_le P.b.overs P.st f i t q0
      omega
  · obtain ⟨i, j, ei, ej, hne, _, _⟩ := ov_nat hb hab
    obtain ⟨q0, h0, rfl⟩ := nar_some hq
    obtain ⟨r0, h1, rfl⟩ := nar_some hr
    have h3 := @narE_le P.b.overs P.st f a t q0
    have h4 := @narE_le P.b.overs P.st f b t r0
    by_cases c : a < f ∨ b < f
    · have := ho a b hab c q0 r0 h0 h1
      omega
    · by_cases ea : a = f
      · subst ea
        have hne2 : b ≠ a := by omega
        rw [narE_l, narE_ne hne2, if_pos hab]
        dsimp only
        omega
      · have eb : b = f := by omega
        subst eb
        rw [narE_l, narE_ne ea, if_pos hab]
        dsimp only
        omega
theorem cV_step {P : Pl} {bs : Bd} {f : Nat} {p : Int × Int} (h : Inv P bs f) (hp : bs[f]? = some p) (hf : f < P.n) :
    cV P.b.overs P.st (P.n - f) f (bs.drop f) = ((rngI p.1 p.2).map fun t => if okBd (nar P bs f t) = true then cV P.b.overs P.st (P.n - (f + 1)) (f + 1) ((nar P bs f t).drop (f + 1)) else 0).sum := by
  have hl := (List.getElem?_eq_some_iff.mp hp)
  obtain ⟨hl, he⟩ := hl
  rw [List.drop_eq_getElem_cons hl, he, show P.n - f = (P.n - (f + 1)) + 1 by omega, cV]
  congr 1
  refine List.map_congr_left fun t ht => ?_
  have ht := rngI_mem.mp ht
  have hd : (nar P bs f t).drop (f + 1) = narL P.b.overs P.st f t (f + 1) (bs.drop (f + 1)) := by unfold nar; rw [narL_drop, Nat.zero_add]
  rw [h.okB hp ht, hd]
/-! how many keys there can be -/
def pairsW (w : Int × Int) : List (Int × Int) := (rngI w.1 w.2).flatMap fun a => (rngI w.1 w.2).map fun b => (a, b)
def listsN (w : Int × Int) : Nat → List Bd
  | 0 => [[]]
  | n + 1 => (pairsW w).flatMap fun p => (listsN w n).map fun r => p :: r
theorem flat_le {α β : Type} {f : α → List β} {n : Nat} : ∀ {l : List α}, (∀ x ∈ l, (f x).length ≤ n) → (l.flatMap f).length ≤ l.length * n
  | [], _ => Nat.zero_le _
  | x :: l, h => by
    rw [List.flatMap_cons, List.length_append, List.length_cons, Nat.succ_mul]
    have h1 := h x List.mem_cons_self
    have h2 := flat_le (l := l) fun y hy => h y (List.mem_cons_of_mem _ hy)
    omega
theorem pairsW_len {w : Int × Int} (h : w.2 ≤ w.1 + 4) : (pairsW w).length ≤ 25 := by
  have h1 : (rngI w.1 w.2).length ≤ 5 := by rw [rngI_len]; omega
  have h2 : (pairsW w).length ≤ (rngI w.1 w.2).length * 5 := flat_le fun x _ => by rw [List.length_map]; exact h1
  omega
theorem listsN_len {w : Int × Int} (h : w.2 ≤ w.1 + 4) : ∀ n, (listsN w n).length ≤ 25 ^ n
  | 0 => Nat.le_refl _
  | n + 1 => by
    have h1 := pairsW_len h
    have h2 : (listsN w (n + 1)).length ≤ (pairsW w).length * 25 ^ n := flat_le fun x _ => by rw [List.length_map]; exact listsN_len h n
    have h3 := Nat.mul_le_mul_right (25 ^ n) h1
    rw [Nat.pow_succ, Nat.mul_comm]
    omega
theorem listsN_mem {w : Int × Int} : ∀ {r : Bd}, (∀ p ∈ r, w.1 ≤ p.1 ∧ p.1 ≤ p.2 ∧ p.2 ≤ w.2) → r ∈ listsN w r.length
  | [], _ => List.mem_singleton.mpr rfl
  | p :: r, h => by
    have h1 := h p List.mem_cons_self
    refine List.mem_flatMap.mpr ⟨p, List.mem_flatMap.mpr ⟨p.1, rngI_mem.mpr (by omega), List.mem_map.mpr ⟨p.2, rngI_mem.mpr (by omega), rfl⟩⟩, List.mem_map.mpr ⟨r, listsN_mem fun q hq => h q (List.mem_cons_of_mem _ hq), rfl⟩⟩
theorem KnOk.len {P : Pl} {L : List (Bd × Nat)} (h : KnOk P L) (hn : P.n ≤ 4) (hw : P.w.2 ≤ P.w.1 + 4) : L.length ≤ 1953125 := by
  have h1 := List.Nodup.length_le_of_subset h.1 (l₂ := (List.range 5).flatMap fun f => (listsN P.w (P.n - f)).map fun r => (r, f)) fun e he => by
    obtain ⟨h1, h2, h3⟩ := h.2 e he
    refine List.mem_flatMap.mpr ⟨e.2, List.mem_range.mpr (by omega), List.mem_map.mpr ⟨e.1, ?_, rfl⟩⟩
    rw [← h2]
    exact listsN_mem h3
  have h2 := flat_le (f := fun f => (listsN P.w (P.n - f)).map fun r => (r, f)) (n := 390625) (l := List.range 5) fun f _ => by
    rw [List.length_map]
    refine Nat.le_trans (listsN_len hw _) ?_
    have : ∀ m, m ≤ 4 → 25 ^ m ≤ 390625 := fun m hm => by
      match m, hm with
      | 0, _ | 1, _ | 2, _ | 3, _ | 4, _ => decide
    exact this _ (by omega)
  rw [List.length_range] at h2
  omega
theorem KnOk.lt {P : Pl} {L : List (Bd × Nat)} (h : KnOk P L) (ok : PlOk P) : (L.map kP).length < sizeLine := by
  rw [List.length_map, sizeLine_eq]
  have := h.len (by unfold Pl.n; have := ok.1.2.1; omega) ok.2.2.2
  omega
theorem kP_nodup {L : List (Bd × Nat)} (h : L.Nodup) : (L.map kP).Nodup := List.pairwise_map.mpr (h.imp fun hne e => hne (kP_inj e))
theorem hasN_kP {L : List (Bd × Nat)} {e : Bd × Nat} : hasN (kP e) (L.map kP) = decide (e ∈ L) := by
  rw [hasN_mem, decide_eq_decide]
  constructor
  · intro h
    obtain ⟨x, hx, he⟩ := List.mem_map.mp h
    rw [← kP_inj he]
    exact hx
  · exact fun h => List.mem_map.mpr ⟨e, h, rfl⟩
theorem lookN_kP {P : Pl} {L : List (Bd × Nat)} {e : Bd × Nat} (h : KnOk P L) (he : e ∈ L) : lookN (L.map kP) (L.map (vP P)) (kP e) = some (vP P e) := lookN_map (kP_nodup h.1) e he
theorem putNs_same {P : Pl} {e : Bd × Nat} : ∀ {L : List (Bd × Nat)}, putNs (kP e) (vP P e) (L.map kP) (L.map (vP P)) = L.map (vP P)
  | [] => rfl
  | x :: L => by
    rw [List.map_cons, List.map_cons, putNs, putNs_same]
    congr 1
    split
    · rename_i h
      rw [kP_inj h]
    · rfl
theorem put_kn {P : Pl} {L : List (Bd × Nat)} {e : Bd × Nat} (h : KnOk P L) (he : keyOk P e) : ∃ L', KnOk P L' ∧ e ∈ L' ∧ putDicT (kP e) (vP P e) (L.map kP) (L.map (vP P)) = knM P L' := by
  unfold putDicT
  rw [hasN_kP]
  by_cases c : e ∈ L
  · refine ⟨L, h, c, ?_⟩
    rw [if_pos (decide_eq_true c), putNs_same]
    rfl
  · refine ⟨L ++ [e], ⟨?_, fun x hx => ?_⟩, List.mem_append_right _ (List.mem_singleton.mpr rfl), ?_⟩
    · rw [List.nodup_append]
      exact ⟨h.1, by simp, fun a ha b hb e2 => c (by rw [List.mem_singleton] at hb; rw [← hb, ← e2]; exact ha)⟩
    · rcases List.mem_append.mp hx with hx | hx
      · exact h.2 x hx
      · rw [List.mem_singleton.mp hx]; exact he
    · rw [if_neg (by rw [decide_eq_false c]; exact Bool.false_ne_true)]
      unfold knM
      rw [List.map_append, List.map_append]
      rfl
theorem Inv.key {P : Pl} {bs : Bd} {f : Nat} (h : Inv P bs f) (hf : f ≤ P.n) : keyOk P (bs.drop f, f) := ⟨hf, by rw [List.length_drop, h.1], fun p hp => h.2.1 p (List.mem_of_mem_drop hp)⟩
theorem PlAt.to {S : MS} {P : Pl} {L : List (Bd × Nat)} (h : PlAt S P) (hL : KnOk P L) : PlAt (S.set P.da (knM P L)) P := by
  obtain ⟨L0, _, h0⟩ := h.kn
  refine ⟨h.ok, ?_, L, hL, MS.set_same⟩
  refine (MS.set_ne fun e => ?_).trans h.bd
  have := h.bd
  rw [e, h0] at this
  cases this
theorem base_in {P : Pl} (ok : PlOk P) {p : Int × Int} (hp : p ∈ baseB P.b P.w) : P.w.1 ≤ p.1 ∧ p.2 ≤ P.w.2 := by
  unfold baseB at hp
  obtain ⟨x, hx, rfl⟩ := List.mem_map.mp hp
  have h1 : ∀ d : D, P.w.1 ≤ lowB d P.w.1 := fun d => by cases d <;> simp only [lowB] <;> omega
  have h2 : ∀ d : D, highB d P.w.2 ≤ P.w.2 := fun d => by cases d <;> simp only [highB] <;> omega
  exact ⟨h1 _, h2 _⟩
theorem base_len {P : Pl} (ok : PlOk P) : (baseB P.b P.w).length = P.n := by unfold baseB Pl.n; rw [List.length_map]; have := ok.1.1.2.2.1.1; omega
theorem Inv_base {P : Pl} (ok : PlOk P) (h : okBd (baseB P.b P.w) = true) : Inv P (baseB P.b P.w) 0 := by
  refine ⟨base_len ok, fun p hp => ?_, fun i hi => absurd hi (Nat.not_lt_zero i), fun a b _ hf => by omega⟩
  have h1 := base_in ok hp
  obtain ⟨i, hi⟩ := List.mem_iff_getElem?.mp hp
  exact ⟨h1.1, okBd_iff.mp h i p hi, h1.2⟩
theorem Inv.nar0 {P : Pl} {bs : Bd} {l : Nat} {t : Int} (h : Inv P bs 0) (ok : okBd (nar P bs l t) = true) : Inv P (nar P bs l t) 0 := by
  refine ⟨by unfold nar; rw [narL_len, h.1], fun p hp => ?_, fun i hi => absurd hi (Nat.not_lt_zero i), fun a b _ hf => by omega⟩
  obtain ⟨i, hi⟩ := List.mem_iff_getElem?.mp hp
  have h1 := okBd_iff.mp ok _ _ hi
  obtain ⟨q0, h0, rfl⟩ := nar_some hi
  have h2 := h.2.1 q0 (List.mem_of_getElem? h0)
  have h3 := @narE_le P.b.overs P.st l i t q0
  omega
/-! lowest terms -/
theorem gcd_nn {x y : Int} (hx : 0 ≤ x) (hy : 0 ≤ y) : Nat.gcd x.toNat y.toNat = Int.gcd x y := by
  unfold Int.gcd
  rw [show x.natAbs = x.toNat by omega, show y.natAbs = y.toNat by omega]
theorem gcd_st (u v : Nat) : Nat.gcd v (u % v) = Nat.gcd u v := by
  rw [Nat.gcd_comm v, ← Nat.gcd_rec, Nat.gcd_comm]
theorem gcd_small {x y : Int} (hy : 0 < y) : (0 : Int) < (Int.gcd x y : Int) ∧ (Int.gcd x y : Int) ≤ y := by
  have h1 : Int.gcd x y ∣ y.natAbs := Nat.gcd_dvd_right _ _
  have h2 := Nat.le_of_dvd (by omega) h1
  have h3 : 0 < Int.gcd x y := Nat.pos_of_dvd_of_pos h1 (by omega)
  omega
theorem ab_eq (x : Int) : (if x < 0 then -x else x) = (x.natAbs : Int) := by split <;> omega
theorem n2c {a : Prop} (h : a) : a := h
theorem fr_mul {a b : Int × Int} (ha : frOk a) (hb : frOk b) : 0 < a.2 * b.2 ∧ a.2 * b.2 < 1000000000 := by
  refine ⟨Int.mul_pos ha.2.1 hb.2.1, ?_⟩
  have h1 : a.2 * b.2 ≤ 10000 * b.2 := Int.mul_le_mul_of_nonneg_right ha.2.2 (by have := hb.2.1; omega)
  have := hb.2.2
  omega
/-! planners that are made, and what is asked of them -/
theorem make_pl {S : MS} {a : Addr} {b : Bk} {lk : D} {w : Int × Int} {s : Bool} {R : KV2} (ha : S a = none) (hb : bkP b) (hw : winOk w) (hR : ∀ la da S3, DL.Sub S S3 → S la = none → S da = none → PlAt S3 ⟨b, s, w, lk, la, da⟩ → R (plX ⟨b, s, w, lk, la, da⟩) S3) :
    sp_Planner___init__ [.ref a, bkV b lk, pD w, .bl s] (S.set a (.ins "Planner" [] [])) (fun v S2 => v = .non ∧ endI false "Planner" a S2 R) noX := by
  refine ⟨a, b, lk, w, s, rfl, MS.set_same, hb, fun la da hla hda hne => ⟨rfl, ?_⟩⟩
  have na : a ≠ la := fun e => by rw [← e, MS.set_same] at hla; cases hla
  have nd : a ≠ da := fun e => by rw [← e, MS.set_same] at hda; cases hda
  rw [MS.set_ne na.symm] at hla
  rw [MS.set_ne nd.symm] at hda
  rw [MS.set_set]
  unfold endI
  rw [if_neg Bool.false_ne_true]
  refine ⟨plN, _, (MS.set_ne nd).trans ((MS.set_ne na).trans MS.set_same), ?_⟩
  have e1 : (((S.set a (.ins "Planner" plN [bkV b lk, .bl s, .ref la, .ref da])).set la (.lst ((baseB b w).map pD))).set da (.dicT [] [])).del a = (S.set la (.lst ((baseB b w).map pD))).set da (.dicT [] []) := by
    rw [MS.set_comm na, MS.set_comm nd, MS.del_set]
    rw [MS.set_ne nd, MS.set_ne na]
    exact ha
  rw [e1]
  exact hR la da _ ((Sub.set hla).set2 hda) hla hda ⟨⟨hb, hw⟩, (MS.set_ne hne).trans MS.set_same, [], ⟨List.nodup_nil, fun _ h => nomatch h⟩, MS.set_same⟩
theorem comp_pl {P : Pl} {g : MS → Prop} {wg : WG} {we : DL.WE} {ρ0 : Rho} {S0 : MS} {Q : KV2} {ds : List D} (xs : List D) (hl : xs.length = ds.length) (hz : ds.length < 1000000) (at0 : PlAt S0 P) (hg : ∀ S, (∀ c m, S0 c = some m → c ≠ P.da → S c = some m) → g S)
    (hs : ∀ (i : Nat) (d x : D), ds[i]? = some d → xs[i]? = some x → ∀ S, PlAt S P → ∀ N : D → MS → Prop, PlTo S P (N x) → wg d ρ0 S fun ρ1 S1 => we ρ1 S1 fun x _ S3 => N x S3)
    (q : PlTo S0 P (Q (.lst xs))) : ∀ a, S0 a = none → compW a g wg wYes we (fun S2 => endL false a S2 Q) ρ0 ds (S0.set a (.lst [])) := by
  intro a ha
  obtain ⟨L0, hL0, hk0⟩ := at0.kn
  have nd : a ≠ P.da := fun e => by rw [e, hk0] at ha; cases ha
  have nl : a ≠ P.la := fun e => by rw [e, at0.bd] at ha; cases ha
  have hg2 : ∀ L acc, g ((S0.set P.da (knM P L)).set a (.lst acc)) := fun L acc => hg _ fun c m hc hne => by
    rw [MS.set_ne (fun e => by rw [e, ha] at hc; cases hc), MS.set_ne hne]
    exact hc
  have key : ∀ (td : List D) (i : Nat), td = ds.drop i → i ≤ ds.length → ∀ L, KnOk P L → compW a g wg wYes we (fun S2 => endL false a S2 Q) ρ0 td ((S0.set P.da (knM P L)).set a (.lst (xs.take i))) := by
    intro td
    induction td with
    | nil =>
      intro i e hi L hL
      have hi2 : i = ds.length := by
        have := congrArg List.length e
        rw [List.length_drop, List.length_nil] at this
        omega
      refine ⟨hg2 _ _, ?_⟩
      rw [hi2, ← hl, List.take_length]
      exact endL_f ((MS.set_ne nd).trans ha) (q L hL)
    | cons d td ih =>
      intro i e hi L hL
      have hlt : i < ds.length := by
        have := congrArg List.length e
        rw [List.length_drop, List.length_cons] at this
        omega
      rw [List.drop_eq_getElem_cons hlt] at e
      obtain ⟨e1, e2⟩ := List.cons.inj e
      have hx : xs[i]? = some xs[i] := List.getElem?_eq_getElem (by omega)
      have at1 : PlAt ((S0.set P.da (knM P L)).set a (.lst (xs.take i))) P := ⟨at0.ok, (MS.set_ne nl.symm).trans (at0.to hL).bd, L, hL, (MS.set_ne nd.symm).trans MS.set_same⟩
      have h := hs i d xs[i] (by rw [e1]; exact List.getElem?_eq_getElem hlt) hx _ at1 (fun x S3 => ∃ acc, S3 a = some (.lst acc) ∧ acc.length < sizeLine ∧ compW a g wg wYes we (fun S2 => endL false a S2 Q) ρ0 td (S3.set a (.lst (acc ++ [x])))) (fun L2 h2 => by
        refine ⟨xs.take i, (MS.set_ne nd).trans MS.set_same, lt_sz (by rw [List.length_take]; omega), ?_⟩
        have e3 : ((((S0.set P.da (knM P L)).set a (.lst (xs.take i))).set P.da (knM P L2)).set a (.lst (xs.take i ++ [xs[i]]))) = (S0.set P.da (knM P L2)).set a (.lst (xs.take (i + 1))) := by
          rw [MS.set_comm nd, MS.set_set, MS.set_set, List.take_add_one, hx]
          rfl
        rw [e3]
        exact ih (i + 1) e2 (by omega) L2 h2)
      exact ⟨hg2 _ _, h⟩
  have h := key ds 0 rfl (Nat.zero_le _) L0 hL0
  rw [MS.set_id hk0] at h
  exact h
/-! all plans -/
def inB : Bd → List Int → Bool
  | [], [] => true
  | p :: r, x :: s => decide (p.1 ≤ x) && (decide (x ≤ p.2) && inB r s)
  | _, _ => false
theorem inB_iff : ∀ {bs : Bd} {s : List Int}, inB bs s = true ↔ s.length = bs.length ∧ ∀ (i : Nat) (p : Int × Int), bs[i]? = some p → p.1 ≤ s.getD i 0 ∧ s.getD i 0 ≤ p.2
  | [], [] => by simp [inB]
  | [], x :: s => by simp [inB]
  | p :: r, [] => by simp [inB]
  | p :: r, x :: s => by
    rw [inB, Bool.and_eq_true, Bool.and_eq_true, decide_eq_true_eq, decide_eq_true_eq, inB_iff, List.length_cons, List.length_cons]
    constructor
    · rintro ⟨h1, h2, h3, h4⟩
      refine ⟨by omega, fun i q hq => ?_⟩
      cases i with
      | zero =>
        rw [List.getElem?_cons_zero, Option.some.injEq] at hq
        subst hq
        exact ⟨h1, h2⟩
      | succ i => exact h4 i q hq
    · rintro ⟨h1, h2⟩
      have := h2 0 p rfl
      exact ⟨this.1, this.2, by omega, fun i q hq => h2 (i + 1) q hq⟩
theorem rowsB_mem : ∀ {bs : Bd} {s : List Int}, s ∈ rowsB bs ↔ inB bs s = true
  | [], [] => by simp [rowsB, inB]
  | [], x :: s => by simp [rowsB, inB]
  | p :: r, [] => by simp [rowsB, inB]
  | p :: r, x :: s => by
    rw [rowsB, List.mem_flatMap, inB, Bool.and_eq_true, Bool.and_eq_true, decide_eq_true_eq, decide_eq_true_eq, ← rowsB_mem]
    constructor
    · rintro ⟨t, ht, h⟩
      obtain ⟨s', hs, e⟩ := List.mem_map.mp h
      cases e
      have := rngI_mem.mp ht
      exact ⟨this.1, this.2, hs⟩
    · rintro ⟨h1, h2, h3⟩
      exact ⟨x, rngI_mem.mpr ⟨h1, h2⟩, List.mem_map.mpr ⟨s, h3, rfl⟩⟩
theorem rngI_lt (lo hi : Int) : (rngI lo hi).Pairwise (· < ·) := by
  unfold rngI
  exact List.pairwise_map.mpr (List.Pairwise.imp (fun h => by omega) List.pairwise_lt_range)
theorem pw_flat {α β : Type} {R : β → β → Prop} {f : α → List β} : ∀ {l : List α}, (∀ a ∈ l, (f a).Pairwise R) → l.Pairwise (fun a b => ∀ x ∈ f a, ∀ y ∈ f b, R x y) → (l.flatMap f).Pairwise R
  | [], _, _ => List.Pairwise.nil
  | a :: l, h1, h2 => by
    rw [List.flatMap_cons, List.pairwise_append]
    obtain ⟨h3, h4⟩ := List.pairwise_cons.mp h2
    refine ⟨h1 a List.mem_cons_self, pw_flat (fun x hx => h1 x (List.mem_cons_of_mem _ hx)) h4, fun x hx y hy => ?_⟩
    obtain ⟨z, hz, hy⟩ := List.mem_flatMap.mp hy
    exact h3 z hz x hx y hy
theorem rowsB_lt : ∀ bs : Bd, (rowsB bs).Pairwise (· < ·)
  | [] => List.pairwise_singleton _ _
  | p :: r => by
    refine pw_flat (fun t _ => ?_) ?_
    · refine List.pairwise_map.mpr ((rowsB_lt r).imp fun h => ?_)
      exact List.cons_lt_cons_iff.mpr (.inr ⟨rfl, h⟩)
    · refine (rngI_lt p.1 p.2).imp fun h x hx y hy => ?_
      obtain ⟨_, _, rfl⟩ := List.mem_map.mp hx
      obtain ⟨_, _, rfl⟩ := List.mem_map.mp hy
      exact List.cons_lt_cons_iff.mpr (.inl h)
theorem lt_irr (x : List Int) : ¬ x < x := List.lt_irrefl x
theorem evL_lt (b : Bk) (w : Int × Int) (s : Bool) : (evL b w s).Pairwise (· < ·) := (rowsB_lt _).filter _
theorem evL_nodup (b : Bk) (w : Int × Int) (s : Bool) : (evL b w s).Nodup := by
  refine List.Pairwise.imp ?_ (evL_lt b w s)
  intro x y h e
  rw [e] at h
  exact lt_irr _ h
/-- plans within bounds -/
def inL (P : Pl) (bs : Bd) : List (List Int) := (evL P.b P.w P.ws).filter (inB bs)
theorem okOv_iff {b : Bk} (hb : bkOk b) {st : Int} {s : List Int} : okOv b.overs st s = true ↔ ∀ i j : Nat, [(i : Int), (j : Int)] ∈ b.overs → st ≤ s.getD i 0 - s.getD j 0 := by
  unfold okOv
  rw [List.all_eq_true]
  constructor
  · intro h i j hm
    have := h _ hm
    exact of_decide_eq_true this
  · intro h r hr
    obtain ⟨x, y, rfl, h1, h2, h3⟩ := hb.2.1.1 r hr
    refine decide_eq_true ?_
    exact h x.toNat y.toNat (by rw [show ((x.toNat : Nat) : Int) = x by omega, show ((y.toNat : Nat) : Int) = y by omega]; exact hr)
theorem nar_in {P : Pl} {bs : Bd} {l : Nat} {t : Int} {s : List Int} (hb : bkOk P.b) (hl : l < bs.length) (ho : okOv P.b.overs P.st s = true) : inB (nar P bs l t) s = (inB bs s && decide (s.getD l 0 = t)) := by
  rw [Bool.eq_iff_iff, Bool.and_eq_true, inB_iff, inB_iff, decide_eq_true_eq]
  have ho := (okOv_iff hb).mp ho
  have hln : (nar P bs l t).length = bs.length := by unfold nar; rw [narL_len]
  rw [hln]
  constructor
  · rintro ⟨h1, h2⟩
    refine ⟨⟨h1, fun i p hp => ?_⟩, ?_⟩
    · have h3 := h2 i _ (by rw [nar_get, hp]; rfl)
      have h4 := @narE_le P.b.overs P.st l i t p
      omega
    · have h3 := h2 l _ (by rw [nar_get, List.getElem?_eq_getElem hl]; rfl)
      rw [narE_l] at h3
      dsimp only at h3
      omega
  · rintro ⟨⟨h1, h2⟩, h3⟩
    refine ⟨h1, fun i p hp => ?_⟩
    obtain ⟨q, hq, rfl⟩ := nar_some hp
    have h4 := h2 i q hq
    by_cases e : i = l
    · subst e
      rw [narE_l]
      dsimp only
      omega
    · rw [narE_ne e]
      dsimp only
      constructor
      · split
        · rename_i hm
          have := ho i l hm
          omega
        · exact h4.1
      · split
        · rename_i hm
          have := ho l i hm
          omega
        · exact h4.2
theorem inL_nar {P : Pl} {bs : Bd} {l : Nat} {t : Int} (hb : bkOk P.b) (hl : l < bs.length) : inL P (nar P bs l t) = (inL P bs).filter fun s => decide (s.getD l 0 = t) := by
  unfold inL
  rw [List.filter_filter]
  refine List.filter_congr fun s hs => ?_
  rw [nar_in hb hl (List.mem_filter.mp hs).2, Bool.and_comm]
theorem inL_none {P : Pl} {bs : Bd} (h : ¬ okBd bs = true) : inL P bs = [] := by
  unfold inL
  rw [List.filter_eq_nil_iff]
  intro s hs h2
  refine h (okBd_iff.mpr fun i p hp => ?_)
  have := (inB_iff.mp h2).2 i p hp
  omega
theorem len_parts {g : List Int → Int} : ∀ {l : List (List Int)} {ts : List Int}, ts.Nodup → (∀ x ∈ l, g x ∈ ts) → ((ts.map fun t => ((l.filter fun x => decide (g x = t)).length : Int)).sum) = (l.length : Int)
  | [], ts, _, _ => by
    induction ts with
    | nil => rfl
    | cons t ts ih =>
      rename_i hn hm
      rw [List.map_cons, List.sum_cons]
      have := ih (List.nodup_cons.mp hn).2 (fun _ h => nomatch h)
      rw [this]
      rfl
  | x :: l, ts, hn, hm => by
    have ih := len_parts (l := l) hn fun y hy => hm y (List.mem_cons_of_mem _ hy)
    have hx := hm x List.mem_cons_self
    rw [List.length_cons]
    have key : ∀ ts : List Int, ts.Nodup → (ts.map fun t => (((x :: l).filter fun y => decide (g y = t)).length : Int)).sum = (ts.map fun t => ((l.filter fun y => decide (g y = t)).length : Int)).sum + (if g x ∈ ts then 1 else 0) := by
      intro ts hn
      induction ts with
      | nil => rfl
      | cons t ts ih2 =>
        obtain ⟨h1, h2⟩ := List.nodup_cons.mp hn
        rw [List.map_cons, List.map_cons, List.sum_cons, List.sum_cons, ih2 h2, List.filter_cons]
        by_cases e : g x = t
        · rw [if_pos (decide_eq_true e), List.length_cons, if_neg (by rw [e]; exact h1), if_pos (by rw [e]; exact List.mem_cons_self)]
          omega
        · rw [if_neg (by rw [decide_eq_false e]; exact Bool.false_ne_true)]
          by_cases e2 : g x ∈ ts
          · rw [if_pos e2, if_pos (List.mem_cons_of_mem _ e2)]
            omega
          · rw [if_neg e2, if_neg (by rw [List.mem_cons]; exact fun z => z.elim e e2)]
            omega
    rw [key ts hn, if_pos hx, ih]
    omega
theorem inL_one {P : Pl} {bs : Bd} (ok : PlOk P) (h : Inv P bs P.n) (hin : ∀ s, inB bs s = true → inB (baseB P.b P.w) s = true) : inL P bs = [bs.map (·.1)] := by
  obtain ⟨hl, hw, hs, ho⟩ := h
  have hb := ok.1.1
  have hu : ∀ s, inB bs s = true ↔ s = bs.map (·.1) := by
    intro s
    rw [inB_iff]
    constructor
    · rintro ⟨h1, h2⟩
      refine List.ext_getElem (by rw [List.length_map, h1]) fun i g1 g2 => ?_
      rw [List.length_map] at g2
      have hp : bs[i]? = some bs[i] := List.getElem?_eq_getElem g2
      have h3 := h2 i _ hp
      have h4 := hs i (by omega) _ hp
      rw [List.getD_eq_getElem?_getD, List.getElem?_eq_getElem g1, Option.getD_some] at h3
      rw [List.getElem_map]
      omega
    · rintro rfl
      refine ⟨List.length_map _, fun i p hp => ?_⟩
      rw [List.getD_eq_getElem?_getD, List.getElem?_map, hp]
      have := (hw p (List.mem_of_getElem? hp)).2.1
      exact ⟨Int.le_refl _, this⟩
  have hm : bs.map (·.1) ∈ evL P.b P.w P.ws := by
    refine List.mem_filter.mpr ⟨rowsB_mem.mpr (hin _ ((hu _).mpr rfl)), (okOv_iff hb).mpr fun i j hij => ?_⟩
    obtain ⟨i', j', ei, ej, _, hi, hj⟩ := ov_nat hb hij
    have hi : i < bs.length := by rw [hl]; unfold Pl.n; omega
    have hj : j < bs.length := by rw [hl]; unfold Pl.n; omega
    have e1 : bs[i]? = some bs[i] := List.getElem?_eq_getElem hi
    have e2 : bs[j]? = some bs[j] := List.getElem?_eq_getElem hj
    have h3 := ho i j hij (.inl (by rw [← hl]; exact hi)) _ _ e1 e2
    have h4 := (hw _ (List.mem_of_getElem? e2)).2.1
    rw [List.getD_eq_getElem?_getD, List.getD_eq_getElem?_getD, List.getElem?_map, List.getElem?_map, e1, e2]
    show P.st ≤ bs[i].1 - bs[j].1
    omega
  have h1 : inL P bs = (evL P.b P.w P.ws).filter fun s => decide (s = bs.map (·.1)) := by
    unfold inL
    refine List.filter_congr fun s _ => ?_
    rw [Bool.eq_iff_iff, hu, decide_eq_true_eq]
  rw [h1]
  have h2 := evL_nodup P.b P.w P.ws
  generalize evL P.b P.w P.ws = E at hm h2
  clear h1
  induction E with
  | nil => cases hm
  | cons x E ih =>
    obtain ⟨h3, h4⟩ := List.nodup_cons.mp h2
    rw [List.filter_cons]
    by_cases e : x = bs.map (·.1)
    · rw [if_pos (decide_eq_true e), List.filter_eq_nil_iff.mpr fun y hy => by
        rw [decide_eq_true_eq]
        exact fun e2 => h3 (by rw [e, ← e2]; exact hy), e]
    · rw [if_neg (by rw [decide_eq_false e]; exact Bool.false_ne_true)]
      exact ih ((List.mem_cons.mp hm).resolve_left fun z => e z.symm) h4
theorem in_nar {P : Pl} {bs : Bd} {l : Nat} {t : Int} {s : List Int} (h : inB (nar P bs l t) s = true) : inB bs s = true := by
  rw [inB_iff] at h ⊢
  refine ⟨by rw [h.1]; unfold nar; rw [narL_len], fun i p hp => ?_⟩
  have h3 := h.2 i _ (by rw [nar_get, hp]; rfl)
  have h4 := @narE_le P.b.overs P.st l i t p
  omega
theorem cV_len {P : Pl} (ok : PlOk P) : ∀ (m : Nat) {bs : Bd} {f : Nat}, P.n - f = m → f ≤ P.n → Inv P bs f → (∀ s, inB bs s = true → inB (baseB P.b P.w) s = true) → cV P.b.overs P.st (P.n - f) f (bs.drop f) = ((inL P bs).length : Int)
  | 0, bs, f, hm, hf, h, hin => by
    have e : f = P.n := by omega
    subst e
    rw [inL_one ok h hin, Nat.sub_self, cV]
    rfl
  | m + 1, bs, f, hm, hf, h, hin => by
    have hlt : f < P.n := by omega
    have hb := ok.1.1
    obtain ⟨p, hp⟩ : ∃ p, bs[f]? = some p := ⟨_, List.getElem?_eq_getElem (by rw [h.1]; exact hlt)⟩
    rw [cV_step h hp hlt]
    have hnd : (rngI p.1 p.2).Nodup := (rngI_lt p.1 p.2).imp fun h e => by omega
    rw [← len_parts (g := fun s => s.getD f 0) (l := inL P bs) hnd fun s hs => ?_]
    · congr 1
      refine List.map_congr_left fun t ht => ?_
      have ht := rngI_mem.mp ht
      rw [← inL_nar hb (by rw [h.1]; exact hlt)]
      by_cases c : okBd (nar P bs f t) = true
      · rw [if_pos c]
        exact cV_len ok m (by omega) (by omega) (h.step hb hp ht c) fun s hs => hin s (in_nar hs)
      · rw [if_neg c, inL_none c]
        rfl
    · exact rngI_mem.mpr ((inB_iff.mp (List.mem_filter.mp hs).2).2 f p hp)
/-! plans by number -/
theorem eq_of_lt : ∀ {l1 l2 : List (List Int)}, l1.Pairwise (· < ·) → l2.Pairwise (· < ·) → (∀ x, x ∈ l1 ↔ x ∈ l2) → l1 = l2
  | [], [], _, _, _ => rfl
  | [], y :: l2, _, _, h => nomatch (h y).mpr List.mem_cons_self
  | x :: l1, [], _, _, h => nomatch (h x).mp List.mem_cons_self
  | x :: l1, y :: l2, h1, h2, h => by
    obtain ⟨a1, b1⟩ := List.pairwise_cons.mp h1
    obtain ⟨a2, b2⟩ := List.pairwise_cons.mp h2
    have e : x = y := by
      rcases List.mem_cons.mp ((h x).mp List.mem_cons_self) with e | e
      · exact e
      · rcases List.mem_cons.mp ((h y).mpr List.mem_cons_self) with e2 | e2
        · exact e2.symm
        · exact absurd (List.lt_trans (a1 y e2) (a2 x e)) (lt_irr _)
    subst e
    rw [eq_of_lt b1 b2 fun z => ?_]
    constructor
    · intro hz
      refine (List.mem_cons.mp ((h z).mp (List.mem_cons_of_mem _ hz))).resolve_left fun e => ?_
      subst e
      exact lt_irr _ (a1 _ hz)
    · intro hz
      refine (List.mem_cons.mp ((h z).mpr (List.mem_cons_of_mem _ hz))).resolve_left fun e => ?_
      subst e
      exact lt_irr _ (a2 _ hz)
theorem lex_lt : ∀ {f : Nat} {x y : List Int}, f < x.length → f < y.length → (∀ i < f, x.getD i 0 = y.getD i 0) → x.getD f 0 < y.getD f 0 → x < y
  | _, [], _, h, _, _, _ => absurd h (Nat.not_lt_zero _)
  | _, _ :: _, [], _, h, _, _ => absurd h (Nat.not_lt_zero _)
  | 0, a :: x, b :: y, _, _, _, h => List.cons_lt_cons_iff.mpr (.inl h)
  | f + 1, a :: x, b :: y, h1, h2, h3, h4 => by
    refine List.cons_lt_cons_iff.mpr (.inr ⟨h3 0 (Nat.succ_pos _), ?_⟩)
    exact lex_lt (f := f) (by rw [List.length_cons] at h1; omega) (by rw [List.length_cons] at h2; omega) (fun i hi => h3 (i + 1) (by omega)) h4
theorem inL_parts {P : Pl} {bs : Bd} {f : Nat} {p : Int × Int} (h : Inv P bs f) (hp : bs[f]? = some p) (hf : f < P.n) (hb : bkOk P.b) : inL P bs = (rngI p.1 p.2).flatMap fun t => inL P (nar P bs f t) := by
  have hl : f < bs.length := by rw [h.1]; exact hf
  refine eq_of_lt ((evL_lt _ _ _).filter _) (pw_flat (fun t _ => (evL_lt _ _ _).filter _) ?_) fun s => ?_
  · refine (rngI_lt p.1 p.2).imp fun {t1 t2} ht x hx y hy => ?_
    rw [inL_nar hb hl] at hx hy
    obtain ⟨hx, ex⟩ := List.mem_filter.mp hx
    obtain ⟨hy, ey⟩ := List.mem_filter.mp hy
    have ex := of_decide_eq_true ex
    have ey := of_decide_eq_true ey
    have ix := inB_iff.mp (List.mem_filter.mp hx).2
    have iy := inB_iff.mp (List.mem_filter.mp hy).2
    refine lex_lt (f := f) (by omega) (by omega) (fun i hi => ?_) (by omega)
    have e1 : bs[i]? = some bs[i] := List.getElem?_eq_getElem (by omega)
    have h1 := ix.2 i _ e1
    have h2 := iy.2 i _ e1
    have h3 := h.2.2.1 i hi _ e1
    omega
  · rw [List.mem_flatMap]
    constructor
    · intro hs
      refine ⟨s.getD f 0, rngI_mem.mpr ((inB_iff.mp (List.mem_filter.mp hs).2).2 f p hp), ?_⟩
      rw [inL_nar hb hl]
      exact List.mem_filter.mpr ⟨hs, decide_eq_true rfl⟩
    · rintro ⟨t, _, hs⟩
      rw [inL_nar hb hl] at hs
      exact (List.mem_filter.mp hs).1
def partU (P : Pl) (bs : Bd) (f : Nat) (p : Int × Int) (k : Nat) : Nat := (((rngI p.1 p.2).take k).map fun t => (inL P (nar P bs f t)).length).sum
theorem flat_get {α β : Type} {f : α → List β} {l : List α} {k m : Nat} {a : α} (hk : l[k]? = some a) (h1 : ((l.take k).map fun x => (f x).length).sum ≤ m) (h2 : m < ((l.take k).map fun x => (f x).length).sum + (f a).length) : (l.flatMap f)[m]? = (f a)[m - ((l.take k).map fun x => (f x).length).sum]? := by
  obtain ⟨hlt, e⟩ := List.getElem?_eq_some_iff.mp hk
  have hl : l = l.take k ++ a :: l.drop (k + 1) := by
    rw [← e, ← List.drop_eq_getElem_cons hlt, List.take_append_drop]
  have hU : ((l.take k).flatMap f).length = ((l.take k).map fun x => (f x).length).sum := List.length_flatMap
  conv => lhs; rw [hl]
  rw [List.flatMap_append, List.flatMap_cons, List.getElem?_append_right (by omega), hU, List.getElem?_append_left (by omega)]
theorem partU_succ {P : Pl} {bs : Bd} {f k : Nat} {p : Int × Int} {t : Int} (h : (rngI p.1 p.2)[k]? = some t) : partU P bs f p (k + 1) = partU P bs f p k + (inL P (nar P bs f t)).length := by
  unfold partU
  rw [List.take_add_one, h, List.map_append, List.sum_append]
  simp
theorem partU_all {P : Pl} {bs : Bd} {f : Nat} {p : Int × Int} (h : Inv P bs f) (hp : bs[f]? = some p) (hf : f < P.n) (hb : bkOk P.b) : partU P bs f p (rngI p.1 p.2).length = (inL P bs).length := by
  rw [inL_parts h hp hf hb, List.length_flatMap]
  unfold partU
  rw [List.take_length]
theorem part_get {P : Pl} {bs : Bd} {f k m : Nat} {p : Int × Int} {t : Int} (h : Inv P bs f) (hp : bs[f]? = some p) (hf : f < P.n) (hb : bkOk P.b) (hk : (rngI p.1 p.2)[k]? = some t) (h1 : partU P bs f p k ≤ m) (h2 : m < partU P bs f p (k + 1)) : (inL P bs)[m]? = (inL P (nar P bs f t))[m - partU P bs f p k]? := by
  rw [partU_succ hk] at h2
  rw [inL_parts h hp hf hb]
  exact flat_get (f := fun t => inL P (nar P bs f t)) hk h1 h2
theorem inL_base {P : Pl} : inL P (baseB P.b P.w) = evL P.b P.w P.ws := by
  unfold inL
  exact List.filter_eq_self.mpr fun s hs => rowsB_mem.mp (List.mem_filter.mp hs).1
theorem whV_len {b : Bk} {w : Int × Int} {s : Bool} (hb : bkP b) (hw : winOk w) : whV b w s = ((evL b w s).length : Int) := by
  unfold whV
  let P : Pl := ⟨b, s, w, .non, 0, 0⟩
  have ok : PlOk P := ⟨hb, hw⟩
  have e := inL_base (P := P)
  by_cases h : okBd (baseB b w) = true
  · rw [if_pos h]
    have := cV_len ok P.n (Nat.sub_zero _) (Nat.zero_le _) (Inv_base ok h) fun s h => h
    rw [e] at this
    exact this
  · rw [if_neg h]
    have := inL_none (P := P) h
    rw [e] at this
    have this : evL b w s = [] := this
    rw [this]
    rfl
theorem wtV_len {P : Pl} (ok : PlOk P) {l : Nat} (hl : l < P.n) (t : Int) : wtV P l t = (((evL P.b P.w P.ws).filter fun s => decide (s.getD l 0 = t)).length : Int) := by
  have hlb : l < (baseB P.b P.w).length := by rw [base_len ok]; exact hl
  unfold wtV
  rw [List.getElem?_eq_getElem hlb]
  have e := inL_nar (P := P) (bs := baseB P.b P.w) (t := t) ok.1.1 hlb
  rw [inL_base] at e
  dsimp only
  by_cases h : okBd (baseB P.b P.w) = true ∧ (baseB P.b P.w)[l].1 ≤ t ∧ t ≤ (baseB P.b P.w)[l].2 ∧ okBd (nar P (baseB P.b P.w) l t) = true
  · rw [if_pos h, ← e]
    have := cV_len ok P.n (Nat.sub_zero _) (Nat.zero_le _) ((Inv_base ok h.1).nar0 h.2.2.2) fun s h => in_nar h
    exact this
  · rw [if_neg h]
    have : ((evL P.b P.w P.ws).filter fun s => decide (s.getD l 0 = t)) = [] := by
      rw [List.filter_eq_nil_iff]
      intro s hs h2
      have h2 := of_decide_eq_true h2
      have h3 := inB_iff.mp (rowsB_mem.mp (List.mem_filter.mp hs).1)
      have h4 := h3.2 l _ (List.getElem?_eq_getElem hlb)
      refine h ⟨okBd_iff.mpr fun i p hp => by have := h3.2 i p hp; omega, by omega, by omega, ?_⟩
      refine Classical.byContradiction fun h5 => ?_
      have h6 := inL_none (P := P) h5
      rw [e, List.filter_eq_nil_iff] at h6
      exact h6 s hs (decide_eq_true h2)
    rw [this]
    rfl
/-! fractions of one bottom -/
theorem lowF_spec {x y : Int} (hy : 0 < y) : ∃ g : Int, 0 < g ∧ x = g * (lowF x y).1 ∧ y = g * (lowF x y).2 := by
  have hg := gcd_small (x := x) hy
  exact ⟨(Int.gcd x y : Int), hg.1, (Int.mul_ediv_cancel' (Int.gcd_dvd_left _ _)).symm, (Int.mul_ediv_cancel' (Int.gcd_dvd_right _ _)).symm⟩
theorem lowF_pos {x y : Int} (hy : 0 < y) : 0 < (lowF x y).2 := by
  obtain ⟨g, hg, _, e⟩ := lowF_spec (x := x) hy
  refine Classical.byContradiction fun h => ?_
  have := Int.mul_nonpos_of_nonneg_of_nonpos (Int.le_of_lt hg) (show (lowF x y).2 ≤ 0 by omega)
  omega
theorem lowF_cross {x y : Int} (hy : 0 < y) : (lowF x y).1 * y = x * (lowF x y).2 := by
  obtain ⟨g, hg, e1, e2⟩ := lowF_spec (x := x) hy
  generalize (lowF x y).1 = u at e1 ⊢
  generalize (lowF x y).2 = v at e2 ⊢
  rw [e1, e2, Int.mul_comm g, Int.mul_comm g, ← Int.mul_assoc, Int.mul_right_comm]
theorem lowF_mul {x y k : Int} (hk : 0 < k) : lowF (k * x) (k * y) = lowF x y := by
  unfold lowF
  rw [Int.gcd_mul_left, show ((k.natAbs * Int.gcd x y : Nat) : Int) = k * (Int.gcd x y : Int) from by rw [Int.natCast_mul, show ((k.natAbs : Nat) : Int) = k by omega], Int.mul_ediv_mul_of_pos _ _ hk, Int.mul_ediv_mul_of_pos _ _ hk]
theorem lowF_ratio {x y x' y' : Int} (hy : 0 < y) (hy' : 0 < y') (h : x * y' = x' * y) : lowF x y = lowF x' y' := by
  rw [← lowF_mul (x := x) (y := y) hy', ← lowF_mul (x := x') (y := y') hy, Int.mul_comm y' x, h, Int.mul_comm x' y, Int.mul_comm y' y]
theorem lowF_small {x y : Int} (hy : 0 < y) : (lowF x y).1.natAbs ≤ x.natAbs ∧ (lowF x y).2 ≤ y := by
  obtain ⟨g, hg, e1, e2⟩ := lowF_spec (x := x) hy
  have hp := lowF_pos (x := x) hy
  refine ⟨?_, ?_⟩
  · have := congrArg Int.natAbs e1
    rw [Int.natAbs_mul] at this
    have h2 : 1 * (lowF x y).1.natAbs ≤ g.natAbs * (lowF x y).1.natAbs := Nat.mul_le_mul_right _ (by omega)
    omega
  · have h2 : 1 * (lowF x y).2 ≤ g * (lowF x y).2 := Int.mul_le_mul_of_nonneg_right (by omega) (by omega)
    omega
theorem lowF_ok {x y : Int} (hx : -1000000000000 ≤ x ∧ x ≤ 1000000000000) (hy : 0 < y ∧ y ≤ 10000) : frOk (lowF x y) := by
  have h := lowF_small (x := x) hy.1
  have h2 := lowF_pos (x := x) hy.1
  unfold frOk
  omega
theorem lowF_zero {y : Int} (hy : 0 < y) : lowF 0 y = (0, 1) := by
  have e : lowF (y * 0) (y * 1) = lowF 0 1 := lowF_mul hy
  rw [Int.mul_zero, Int.mul_one] at e
  rw [e]
  rfl
theorem lowF_times {c t n : Int} (hn : 0 < n) : lowF ((lowF c n).1 * t) ((lowF c n).2 * 1) = lowF (c * t) n := by
  have h1 := lowF_pos (x := c) hn
  refine lowF_ratio (by rw [Int.mul_one]; exact h1) hn ?_
  rw [Int.mul_one, Int.mul_right_comm, lowF_cross hn, Int.mul_right_comm]
theorem lowF_add {a b n : Int} (hn : 0 < n) : lowF ((lowF a n).1 * (lowF b n).2 + (lowF b n).1 * (lowF a n).2) ((lowF a n).2 * (lowF b n).2) = lowF (a + b) n := by
  have h1 := lowF_pos (x := a) hn
  have h2 := lowF_pos (x := b) hn
  refine lowF_ratio (Int.mul_pos h1 h2) hn ?_
  rw [Int.add_mul, Int.mul_right_comm, lowF_cross hn, Int.mul_right_comm (lowF b n).1, lowF_cross hn, Int.add_mul, Int.mul_assoc, Int.mul_assoc b, Int.mul_comm (lowF b n).2]
theorem lowF_lt {a b n : Int} (hn : 0 < n) : (lowF a n).1 * (lowF b n).2 < (lowF b n).1 * (lowF a n).2 ↔ a < b := by
  have h1 := lowF_pos (x := a) hn
  have h2 := lowF_pos (x := b) hn
  have e1 : ((lowF a n).1 * (lowF b n).2) * n = a * ((lowF a n).2 * (lowF b n).2) := by
    rw [Int.mul_right_comm, lowF_cross hn, Int.mul_assoc]
  have e2 : ((lowF b n).1 * (lowF a n).2) * n = b * ((lowF a n).2 * (lowF b n).2) := by
    rw [Int.mul_right_comm, lowF_cross hn, Int.mul_assoc, Int.mul_comm (lowF b n).2]
  have hp := Int.mul_pos h1 h2
  constructor
  · intro h
    have h3 := Int.mul_lt_mul_of_pos_right h hn
    rw [e1, e2] at h3
    exact Int.lt_of_mul_lt_mul_right h3 (Int.le_of_lt hp)
  · intro h
    have h3 := Int.mul_lt_mul_of_pos_right h hp
    rw [← e1, ← e2] at h3
    exact Int.lt_of_mul_lt_mul_right h3 (Int.le_of_lt hn)
theorem sum_parts {g h : List Int → Int} : ∀ {l : List (List Int)} {ts : List Int}, ts.Nodup → (∀ x ∈ l, g x ∈ ts) → ((ts.map fun t => ((l.filter fun x => decide (g x = t)).length : Int) * t).sum) = (l.map g).sum
  | [], ts, _, _ => by
    induction ts with
    | nil => rfl
    | cons t ts ih =>
      rename_i hn hm
      rw [List.map_cons, List.sum_cons]
      have := ih (List.nodup_cons.mp hn).2 (fun _ h => nomatch h)
      rw [this]
      simp
  | x :: l, ts, hn, hm => by
    have ih := sum_parts (g := g) (h := h) (l := l) hn fun y hy => hm y (List.mem_cons_of_mem _ hy)
    have hx := hm x List.mem_cons_self
    have key : ∀ ts : List Int, ts.Nodup → (ts.map fun t => (((x :: l).filter fun y => decide (g y = t)).length : Int) * t).sum = (ts.map fun t => ((l.filter fun y => decide (g y = t)).length : Int) * t).sum + (if g x ∈ ts then g x else 0) := by
      intro ts hn
      induction ts with
      | nil => rfl
      | cons t ts ih2 =>
        obtain ⟨h1, h2⟩ := List.nodup_cons.mp hn
        rw [List.map_cons, List.map_cons, List.sum_cons, List.sum_cons, ih2 h2, List.filter_cons]
        by_cases e : g x = t
        · rw [if_pos (decide_eq_true e), List.length_cons, if_neg (by rw [e]; exact h1), if_pos (by rw [e]; exact List.mem_cons_self), Int.natCast_add, Int.add_mul, e]
          omega
        · rw [if_neg (by rw [decide_eq_false e]; exact Bool.false_ne_true)]
          by_cases e2 : g x ∈ ts
          · rw [if_pos e2, if_pos (List.mem_cons_of_mem _ e2)]
            omega
          · rw [if_neg e2, if_neg (by rw [List.mem_cons]; exact fun z => z.elim e e2)]
            omega
    rw [key ts hn, if_pos hx, ih, List.map_cons, List.sum_cons]
    omega
theorem ev_len {b : Bk} {w : Int × Int} {s : Bool} (hb : bkOk b) {r : List Int} (h : r ∈ evL b w s) : r.length = b.count.toNat := by
  have h1 := (inB_iff.mp (rowsB_mem.mp (List.mem_filter.mp h).1)).1
  rw [h1]
  unfold baseB
  rw [List.length_map]
  have := hb.2.2.1.1
  omega
theorem ev_in {b : Bk} {w : Int × Int} {s : Bool} (hb : bkP b) (hw : winOk w) {r : List Int} (h : r ∈ evL b w s) {l : Nat} (hl : l < b.count.toNat) : r.getD l 0 ∈ rngI w.1 w.2 := by
  let P : Pl := ⟨b, s, w, .non, 0, 0⟩
  have ok : PlOk P := ⟨hb, hw⟩
  have h1 := (inB_iff.mp (rowsB_mem.mp (List.mem_filter.mp h).1)).2 l _ (List.getElem?_eq_getElem (by rw [show (baseB b w).length = b.count.toNat from base_len ok]; exact hl))
  have h2 := base_in ok (p := (baseB b w)[l]'(by rw [show (baseB b w).length = b.count.toNat from base_len ok]; exact hl)) (List.getElem_mem _)
  exact rngI_mem.mpr ⟨Int.le_trans h2.1 h1.1, Int.le_trans h1.2 h2.2⟩
theorem rngI_nodup (a b : Int) : (rngI a b).Nodup := (rngI_lt a b).imp fun h e => by omega
theorem ev_base {b : Bk} {w : Int × Int} {s : Bool} (h : 0 < (evL b w s).length) : okBd (baseB b w) = true := by
  refine Classical.byContradiction fun h2 => ?_
  have := inL_none (P := (⟨b, s, w, .non, 0, 0⟩ : Pl)) h2
  rw [inL_base] at this
  have this : evL b w s = [] := this
  rw [this] at h
  exact absurd h (Nat.lt_irrefl _)
theorem cntT_le {b : Bk} {w : Int × Int} {s : Bool} {l : Nat} {t : Int} : 0 ≤ cntT b w s l t ∧ cntT b w s l t ≤ ((evL b w s).length : Int) := by
  unfold cntT
  have := List.length_filter_le (fun r : List Int => decide (r.getD l 0 = t)) (evL b w s)
  omega
theorem mean_sum {b : Bk} {w : Int × Int} {s : Bool} (hb : bkP b) (hw : winOk w) {l : Nat} (hl : l < b.count.toNat) : ((rngI w.1 w.2).map fun t => cntT b w s l t * t).sum = ((evL b w s).map fun r => r.getD l 0).sum :=
  sum_parts (h := fun _ => 0) (rngI_nodup _ _) fun _ hx => ev_in hb hw hx hl
theorem sum_over {x y : List Int → Int} {st : Int} : ∀ {l : List (List Int)}, (∀ r ∈ l, st ≤ x r - y r) → (l.map y).sum + st * (l.length : Int) ≤ (l.map x).sum
  | [], _ => by simp
  | r :: l, h => by
    have h1 := h r List.mem_cons_self
    have h2 := sum_over (l := l) fun z hz => h z (List.mem_cons_of_mem _ hz)
    rw [List.map_cons, List.map_cons, List.sum_cons, List.sum_cons, List.length_cons, Int.natCast_add, Int.mul_add]
    omega
theorem ev_over {b : Bk} {w : Int × Int} {s : Bool} (hb : bkOk b) {i j : Nat} (h : [(i : Int), (j : Int)] ∈ b.overs) : ((evL b w s).map fun r => r.getD j 0).sum + stI s * ((evL b w s).length : Int) ≤ ((evL b w s).map fun r => r.getD i 0).sum :=
  sum_over fun _ hr => (okOv_iff hb).mp (List.mem_filter.mp hr).2 i j h
/-! two times at once -/
def stB (P : Pl) : Option Bd → Nat → Int → Option Bd
  | none, _, _ => none
  | some bs, l, t => match bs[l]? with
    | none => none
    | some p => if p.1 ≤ t ∧ t ≤ p.2 ∧ okBd (nar P bs l t) = true then some (nar P bs l t) else none
def obD : Option Bd → D
  | none => .non
  | some bs => bdD bs
def inO (P : Pl) : Option Bd → List (List Int)
  | none => []
  | some bs => inL P bs
def goodO (P : Pl) (o : Option Bd) : Prop := ∀ bs, o = some bs → Inv P bs 0 ∧ ∀ s, inB bs s = true → inB (baseB P.b P.w) s = true
theorem goodO_st {P : Pl} {o : Option Bd} {l : Nat} {t : Int} (h : goodO P o) : goodO P (stB P o l t) := by
  intro bs e
  cases o with
  | none => cases e
  | some b0 =>
    have h0 := h b0 rfl
    unfold stB at e
    dsimp only at e
    cases hp : b0[l]? with
    | none => rw [hp] at e; cases e
    | some p =>
      rw [hp] at e
      dsimp only at e
      split at e
      · rename_i c
        cases e
        exact ⟨h0.1.nar0 c.2.2, fun s hs => h0.2 s (in_nar hs)⟩
      · cases e
theorem inO_st {P : Pl} {o : Option Bd} {l : Nat} {t : Int} (ok : PlOk P) (h : goodO P o) (hl : l < P.n) : inO P (stB P o l t) = (inO P o).filter fun s => decide (s.getD l 0 = t) := by
  cases o with
  | none => rfl
  | some b0 =>
    have h0 := h b0 rfl
    have hlb : l < b0.length := by rw [h0.1.1]; exact hl
    have e := inL_nar (P := P) (bs := b0) (t := t) ok.1.1 hlb
    unfold stB
    dsimp only
    rw [List.getElem?_eq_getElem hlb]
    dsimp only
    by_cases c : b0[l].1 ≤ t ∧ t ≤ b0[l].2 ∧ okBd (nar P b0 l t) = true
    · rw [if_pos c]
      exact e
    · rw [if_neg c]
      show [] = (inL P b0).filter _
      refine (List.filter_eq_nil_iff.mpr fun s hs h2 => ?_).symm
      have h2 := of_decide_eq_true h2
      have h3 := inB_iff.mp (List.mem_filter.mp hs).2
      have h4 := h3.2 l _ (List.getElem?_eq_getElem hlb)
      refine c ⟨by omega, by omega, ?_⟩
      refine Classical.byContradiction fun h5 => ?_
      have h6 := inL_none (P := P) h5
      rw [e, List.filter_eq_nil_iff] at h6
      exact h6 s hs (decide_eq_true h2)
theorem pair_sum {b : Bk} {w : Int × Int} {s : Bool} (hb : bkP b) (hw : winOk w) {l k m : Nat} (hl : l < b.count.toNat) (hk : k < b.count.toNat) : ((rngI w.1 w.2).map fun t => ((rngI w.1 w.2).map fun u => if plc t u = m then cnt2 b w s l k t u else 0).sum).sum = cntP b w s l k m := by
  unfold cntP
  rw [← len_parts (g := fun r => r.getD l 0) (rngI_nodup w.1 w.2) fun x hx => ev_in hb hw (List.mem_filter.mp hx).1 hl]
  congr 1
  refine List.map_congr_left fun t _ => ?_
  rw [← len_parts (g := fun r => r.getD k 0) (rngI_nodup w.1 w.2) fun x hx => ev_in hb hw (List.mem_filter.mp (List.mem_filter.mp hx).1).1 hk]
  congr 1
  refine List.map_congr_left fun u _ => ?_
  rw [List.filter_filter, List.filter_filter]
  unfold cnt2
  split
  · rename_i e
    congr 2
    refine List.filter_congr fun r _ => ?_
    rw [Bool.eq_iff_iff]
    simp only [Bool.and_eq_true, decide_eq_true_eq]
    constructor
    · rintro ⟨h1, h2⟩
      exact ⟨⟨h2, h1⟩, by rw [h1, h2]; exact e⟩
    · rintro ⟨⟨h1, h2⟩, _⟩
      exact ⟨h2, h1⟩
  · rename_i e
    rw [List.filter_eq_nil_iff.mpr]
    · rfl
    · intro r _ h
      simp only [Bool.and_eq_true, decide_eq_true_eq] at h
      exact e (by rw [← h.1.1, ← h.1.2]; exact h.2)
theorem sum_bound {f : Int → Int} {c : Int} (h : ∀ t, -c ≤ f t ∧ f t ≤ c) : ∀ l : List Int, -(c * (l.length : Int)) ≤ (l.map f).sum ∧ (l.map f).sum ≤ c * (l.length : Int)
  | [] => by simp
  | x :: l => by
    have h1 := sum_bound h l
    have h2 := h x
    rw [List.map_cons, List.sum_cons, List.length_cons, Int.natCast_add, Int.mul_add]
    omega
theorem ev_sums {b : Bk} {w : Int × Int} {s : Bool} {l : Nat} (hw : winOk w) (hn : (evL b w s).length ≤ 10000) (i : Nat) : -500000000 ≤ (((rngI w.1 w.2).take i).map fun t => cntT b w s l t * t).sum ∧ (((rngI w.1 w.2).take i).map fun t => cntT b w s l t * t).sum ≤ 500000000 := by
  have hl : ((rngI w.1 w.2).take i).length ≤ 5 := by
    rw [List.length_take, rngI_len]
    have := hw.2
    omega
  have e : ((rngI w.1 w.2).take i).map (fun t => cntT b w s l t * t) = ((rngI w.1 w.2).take i).map fun t => if w.1 ≤ t ∧ t ≤ w.2 then cntT b w s l t * t else 0 := List.map_congr_left fun t ht => by
    have := rngI_mem.mp (List.mem_of_mem_take ht)
    rw [if_pos this]
  rw [e]
  have h := sum_bound (c := 10000000) (f := fun t => if w.1 ≤ t ∧ t ≤ w.2 then cntT b w s l t * t else 0) (fun t => by
    split
    · rename_i h
      have hc := cntT_le (b := b) (w := w) (s := s) (l := l) (t := t)
      have h1 := hw.1
      have a1 : cntT b w s l t * t ≤ cntT b w s l t * 1000 := Int.mul_le_mul_of_nonneg_left (by omega) hc.1
      have a2 : cntT b w s l t * (-1000) ≤ cntT b w s l t * t := Int.mul_le_mul_of_nonneg_left (by omega) hc.1
      omega
    · omega) ((rngI w.1 w.2).take i)
  omega
/-! the law's own list of plans -/
theorem rowsB_snoc {p : Int × Int} : ∀ bs : Bd, rowsB (bs ++ [p]) = (rowsB bs).flatMap fun s => (rngI p.1 p.2).map fun t => s ++ [t]
  | [] => by
    show ((rngI p.1 p.2).flatMap fun t => [[]].map fun s => t :: s) = _
    rw [rowsB]
    simp [List.flatMap_singleton]
    rw [← List.map_eq_flatMap]
  | x :: r => by
    show ((rngI x.1 x.2).flatMap fun t => (rowsB (r ++ [p])).map fun s => t :: s) = ((rngI x.1 x.2).flatMap fun t => (rowsB r).map fun s => t :: s).flatMap _
    rw [rowsB_snoc r, List.flatMap_assoc]
    congr 1
    funext t
    rw [List.map_flatMap, List.flatMap_map]
    congr 1
    funext s
    rw [List.map_map]
    rfl
theorem eq_of_ltI : ∀ {l1 l2 : List Int}, l1.Pairwise (· < ·) → l2.Pairwise (· < ·) → (∀ x, x ∈ l1 ↔ x ∈ l2) → l1 = l2
  | [], [], _, _, _ => rfl
  | [], y :: l2, _, _, h => nomatch (h y).mpr List.mem_cons_self
  | x :: l1, [], _, _, h => nomatch (h x).mp List.mem_cons_self
  | x :: l1, y :: l2, h1, h2, h => by
    obtain ⟨a1, b1⟩ := List.pairwise_cons.mp h1
    obtain ⟨a2, b2⟩ := List.pairwise_cons.mp h2
    have e : x = y := by
      rcases List.mem_cons.mp ((h x).mp List.mem_cons_self) with e | e
      · exact e
      · rcases List.mem_cons.mp ((h y).mpr List.mem_cons_self) with e2 | e2
        · exact e2.symm
        · have := a1 y e2
          have := a2 x e
          omega
    subst e
    rw [eq_of_ltI b1 b2 fun z => ?_]
    constructor
    · intro hz
      refine (List.mem_cons.mp ((h z).mp (List.mem_cons_of_mem _ hz))).resolve_left fun e => ?_
      have := a1 _ hz
      omega
    · intro hz
      refine (List.mem_cons.mp ((h z).mpr (List.mem_cons_of_mem _ hz))).resolve_left fun e => ?_
      have := a2 _ hz
      omega
theorem rngI_filter {e l : D} {w : Int × Int} (h1 : bound e) (h2 : bound l) : rngI (lowB e w.1) (highB l w.2) = (rngI w.1 w.2).filter (okT e l) := by
  refine eq_of_ltI (rngI_lt _ _) ((rngI_lt _ _).filter _) fun t => ?_
  rw [List.mem_filter, rngI_mem, rngI_mem]
  rcases h1 with rfl | ⟨x, rfl, _⟩ <;> rcases h2 with rfl | ⟨y, rfl, _⟩ <;> simp [lowB, highB, okT] <;> omega
theorem rowsB_len : ∀ {bs : Bd}, (∀ p ∈ bs, p.2 ≤ p.1 + 4) → (rowsB bs).length ≤ 5 ^ bs.length
  | [], _ => Nat.le_refl _
  | p :: r, h => by
    have h1 := rowsB_len (bs := r) fun q hq => h q (List.mem_cons_of_mem _ hq)
    have h2 := h p List.mem_cons_self
    have h3 : (rowsB (p :: r)).length ≤ (rngI p.1 p.2).length * 5 ^ r.length := flat_le fun x _ => by rw [List.length_map]; exact h1
    rw [rngI_len] at h3
    have h4 : (p.2 + 1 - p.1).toNat * 5 ^ r.length ≤ 5 * 5 ^ r.length := Nat.mul_le_mul_right _ (by omega)
    rw [List.length_cons, Nat.pow_succ]
    omega
theorem rows_len {b : Bk} {w : Int × Int} (hb : bkP b) (hw : winOk w) (i : Nat) : (rowsB ((baseB b w).take i)).length ≤ 625 := by
  let P : Pl := ⟨b, true, w, .non, 0, 0⟩
  have ok : PlOk P := ⟨hb, hw⟩
  have hl : (baseB b w).length = b.count.toNat := base_len ok
  have h1 := rowsB_len (bs := (baseB b w).take i) fun p hp => by
    have h := base_in ok (List.mem_of_mem_take hp)
    have h2 : w.1 ≤ p.1 ∧ p.2 ≤ w.2 := h
    have := hw.2.2
    omega
  have h2 : ((baseB b w).take i).length ≤ 4 := by
    rw [List.length_take, hl]
    have := hb.2.1
    omega
  have h3 := Nat.pow_le_pow_right (show 0 < 5 by decide) h2
  omega
theorem evL_len {b : Bk} {w : Int × Int} {s : Bool} (hb : bkP b) (hw : winOk w) : (evL b w s).length ≤ 625 := by
  have h := rows_len hb hw (baseB b w).length
  rw [List.take_length] at h
  exact Nat.le_trans (List.length_filter_le _ _) h
/-! the law's store and rows -/
structure StL (S : MS) (t : Addr) (S' : MS) : Prop where
  sb : DL.Sub S S'
  gt : S' t = some (.opq (opq2 JH))
theorem StL.put {S : MS} {t d : Addr} {S' : MS} {m : MO} (h : StL S t S') (hd : S' d = none) : StL S t (S'.set d m) := ⟨h.sb.trans (Sub.set hd), MS.set_t h.gt hd⟩
theorem make_bk {S : MS} {a : Addr} {b : Bk} {R : KV2} (ha : S a = none) (hb : bkOk b) (ho : b.overs.length ≤ 1000) (hR : ∀ d, S d = none → R (bkV b (.ref d)) (S.set d (.dic [] []))) :
    sp_Book___init__ [.ref a, .int b.count, .tup (b.overs.map tupI), .tup (b.dates.map fun p => .tup [p.1, p.2]), .tup (b.kinds.map tupI)] (S.set a (.ins "Book" [] [])) (fun v S2 => v = .non ∧ endI false "Book" a S2 R) noX := by
  refine ⟨a, b, rfl, MS.set_same, hb, ho, fun d hd => ⟨rfl, ?_⟩⟩
  have na : a ≠ d := fun e => by rw [← e, MS.set_same] at hd; cases hd
  rw [MS.set_ne na.symm] at hd
  rw [MS.set_set]
  unfold endI
  rw [if_neg Bool.false_ne_true]
  refine ⟨bkN, _, (MS.set_ne na).trans MS.set_same, ?_⟩
  have e1 : ((S.set a (.ins "Book" bkN (bkL b (.ref d)))).set d (.dic [] [])).del a = S.set d (.dic [] []) := by
    rw [MS.set_comm na, MS.del_set]
    rw [MS.set_ne na]
    exact ha
  rw [e1]
  exact hR d hd
def twoB : Bk := ⟨2, [[1, 0]], [(.non, .non), (.non, .non)], []⟩
theorem twoB_ok : bkP twoB := by
  refine ⟨⟨by decide, ⟨fun r hr => ?_, List.pairwise_singleton _ _⟩, ⟨rfl, fun p hp => ?_⟩, by decide, fun r hr => (nomatch hr)⟩, by decide, by decide⟩
  · rw [List.mem_singleton.mp hr]
    exact ⟨1, 0, rfl, by decide, by decide, by decide⟩
  · simp only [twoB, List.mem_cons, List.not_mem_nil, or_false] at hp
    rcases hp with rfl | rfl <;> exact dateOk_non
theorem wIfS_i {c : WT} {A B : WS} {De : DEnds} {ρ : Rho} {S : MS} (b : Bool) (hc : ∀ Q : Bool → Rho → MS → Prop, Q b ρ S → c ρ S Q) (h1 : b = true → A De ρ S) (h2 : b = false → B De ρ S) : wIfS c A B De ρ S := hc _ (ite_bl h1 h2)
theorem okL_fr {p : Int × Int} : okL 1 (frD p) = true := okL_tup (n := 0) fun d hd => by
  simp only [List.mem_cons, List.not_mem_nil, or_false] at hd
  rcases hd with rfl | rfl <;> exact okL_int
theorem okD_fr {p : Int × Int} : okD (frD p) = true := okL_mono okL_fr (by decide)
theorem okD_frs {α : Type} {l : List α} {f : α → Int × Int} : okD (.tup (l.map fun x => frD (f x))) = true := okL_mono (n := 2) (okL_tup (n := 1) fun d hd => by
  obtain ⟨x, _, rfl⟩ := List.mem_map.mp hd
  exact okL_fr) (by decide)
theorem maxB_ge : ∀ (xs : List Int) (x : Int), ∀ y ∈ x :: xs, y ≤ maxBy (fun a b => decide (a < b)) x xs
  | [], x, y, h => by rw [List.mem_singleton.mp h]; exact Int.le_refl _
  | z :: xs, x, y, h => by
    have e : maxBy (fun a b => decide (a < b)) x (z :: xs) = maxBy (fun a b => decide (a < b)) (if decide (x < z) = true then z else x) xs := rfl
    rw [e]
    have h0 := maxB_ge xs (if decide (x < z) = true then z else x) _ List.mem_cons_self
    rcases List.mem_cons.mp h with rfl | h
    · refine Int.le_trans ?_ h0
      split
      · rename_i hh; have := of_decide_eq_true hh; omega
      · exact Int.le_refl _
    · rcases List.mem_cons.mp h with rfl | h
      · refine Int.le_trans ?_ h0
        split
        · exact Int.le_refl _
        · rename_i hh; have := of_decide_eq_false (Bool.eq_false_iff.mpr hh); omega
      · exact maxB_ge xs _ y (List.mem_cons_of_mem _ h)
theorem maxB_mem : ∀ (xs : List Int) (x : Int), maxBy (fun a b => decide (a < b)) x xs ∈ x :: xs
  | [], x => List.mem_singleton.mpr rfl
  | y :: xs, x => by
    have e : maxBy (fun a b => decide (a < b)) x (y :: xs) = maxBy (fun a b => decide (a < b)) (if decide (x < y) = true then y else x) xs := rfl
    rw [e]
    have h := maxB_mem xs (if decide (x < y) = true then y else x)
    rcases List.mem_cons.mp h with h | h
    · rw [h]; split <;> simp
    · exact List.mem_cons_of_mem _ (List.mem_cons_of_mem _ h)
theorem okD_row {r : List Int} : okD (tupI r) = true := okL_mono (okL_row (n := 1) (Nat.le_refl _) r) (by decide)
theorem row_get {b : Bk} {w : Int × Int} {s : Bool} (hb : bkP b) {r : List Int} (h : r ∈ evL b w s) {l : Nat} (hl : l < b.count.toNat) : (r.map D.int)[l]? = some (.int (r.getD l 0)) := by
  have h1 : l < r.length := by rw [ev_len hb.1 h]; exact hl
  rw [List.getElem?_map, List.getD_eq_getElem?_getD, List.getElem?_eq_getElem h1]
  rfl
theorem eqD_no {x : D} {p : Prop} (ok : okD x = true) (h : (!eqD x x) = true) : p := by
  rw [eqD_refl ok] at h
  cases h
theorem first_max {lo hi : Int} {f : Int → Int} {c : Int} {cs : List Int} (h : (rngI lo hi).map f = c :: cs) : (c :: cs).idxOf (maxBy (fun a b => decide (a < b)) c cs) < (rngI lo hi).length ∧
    (∀ j < (rngI lo hi).length, f (lo + (j : Int)) ≤ f (lo + (((c :: cs).idxOf (maxBy (fun a b => decide (a < b)) c cs) : Nat) : Int))) ∧ ∀ j < (c :: cs).idxOf (maxBy (fun a b => decide (a < b)) c cs), f (lo + (j : Int)) < f (lo + (((c :: cs).idxOf (maxBy (fun a b => decide (a < b)) c cs) : Nat) : Int)) := by
  have hm := maxB_mem cs c
  have hg := maxB_ge cs c
  generalize maxBy (fun a b => decide (a < b)) c cs = M at hm hg ⊢
  have hl : (c :: cs).length = (rngI lo hi).length := by rw [← h, List.length_map]
  have hk := List.idxOf_lt_length_of_mem hm
  have gt : ∀ j, (hj : j < (c :: cs).length) → (c :: cs)[j] = f (lo + (j : Int)) := fun j hj => by
    have e : (c :: cs)[j]? = some (f (lo + (j : Int))) := by
      rw [← h, List.getElem?_map, rngI_get (by rw [← rngI_len, ← hl]; exact hj)]
      rfl
    rw [List.getElem?_eq_getElem hj] at e
    exact Option.some.inj e
  have ek : f (lo + (((c :: cs).idxOf M : Nat) : Int)) = M := by rw [← gt _ hk, List.getElem_idxOf hk]
  rw [ek]
  refine ⟨by rw [← hl]; exact hk, fun j hj => ?_, fun j hj => ?_⟩
  · rw [← gt j (by rw [hl]; exact hj)]
    exact hg _ (List.getElem_mem _)
  · have hj2 : j < (c :: cs).length := Nat.lt_trans hj hk
    have h1 : f (lo + (j : Int)) ≤ M := by
      rw [← gt j hj2]
      exact hg _ (List.getElem_mem _)
    have h2 : f (lo + (j : Int)) ≠ M := by
      rw [← gt j hj2]
      intro e
      have h3 := List.not_of_lt_findIdx (p := (· == M)) (xs := c :: cs) hj
      rw [e] at h3
      simp at h3
    omega
theorem first_uniq {lo : Int} {f : Int → Int} {n k k2 : Nat} (h1 : k < n) (h2 : ∀ j < n, f (lo + (j : Int)) ≤ f (lo + (k : Int))) (h3 : ∀ j < k, f (lo + (j : Int)) < f (lo + (k : Int))) (g1 : k2 < n) (g2 : ∀ j < n, f (lo + (j : Int)) ≤ f (lo + (k2 : Int))) (g3 : ∀ j < k2, f (lo + (j : Int)) < f (lo + (k2 : Int))) : k2 = k := by
  rcases Nat.lt_trichotomy k2 k with h | h | h
  · have := h3 _ h
    have := g2 _ h1
    omega
  · exact h
  · have := g3 _ h
    have := h2 _ g1
    omega
theorem cntP_0 {b : Bk} {w : Int × Int} {s : Bool} {l k : Nat} : (((evL b w s).filter fun r => decide (r.getD l 0 < r.getD k 0)).length : Int) = cntP b w s l k 0 := by
  unfold cntP
  congr 2
  refine List.filter_congr fun r _ => ?_
  rw [decide_eq_decide]
  unfold plc
  split
  · exact ⟨fun h => by omega, fun h => by omega⟩
  · split
    · exact ⟨fun _ => rfl, fun _ => by assumption⟩
    · exact ⟨fun h => absurd h (by assumption), fun h => by omega⟩
theorem cntP_1 {b : Bk} {w : Int × Int} {s : Bool} {l k : Nat} : (((evL b w s).filter fun r => decide (r.getD l 0 = r.getD k 0)).length : Int) = cntP b w s l k 1 := by
  unfold cntP
  congr 2
  refine List.filter_congr fun r _ => ?_
  rw [decide_eq_decide]
  unfold plc
  split
  · exact ⟨fun h => by omega, fun h => by omega⟩
  · split
    · exact ⟨fun h => by omega, fun h => by omega⟩
    · exact ⟨fun _ => rfl, fun _ => by omega⟩
theorem cntP_2 {b : Bk} {w : Int × Int} {s : Bool} {l k : Nat} : ((evL b w s).length : Int) - [cntP b w s l k 0, cntP b w s l k 1].sum = cntP b w s l k 2 := by
  have h : ∀ L : List (List Int), ((L.filter fun r => decide (plc (r.getD l 0) (r.getD k 0) = 0)).length : Int) + (L.filter fun r => decide (plc (r.getD l 0) (r.getD k 0) = 1)).length + (L.filter fun r => decide (plc (r.getD l 0) (r.getD k 0) = 2)).length = L.length := by
    intro L
    induction L with
    | nil => rfl
    | cons r L ih =>
      have h3 := plc_lt (r.getD l 0) (r.getD k 0)
      rw [List.filter_cons, List.filter_cons, List.filter_cons, List.length_cons]
      generalize plc (r.getD l 0) (r.getD k 0) = x at h3 ⊢
      match x, h3 with
      | 0, _ => simp only [decide_true, decide_false, if_true, List.length_cons, show ¬ (0 : Nat) = 1 from by decide, show ¬ (0 : Nat) = 2 from by decide, Bool.false_eq_true, if_false]; omega
      | 1, _ => simp only [decide_true, decide_false, if_true, List.length_cons, show ¬ (1 : Nat) = 0 from by decide, show ¬ (1 : Nat) = 2 from by decide, Bool.false_eq_true, if_false]; omega
      | 2, _ => simp only [decide_true, decide_false, if_true, List.length_cons, show ¬ (2 : Nat) = 0 from by decide, show ¬ (2 : Nat) = 1 from by decide, Bool.false_eq_true, if_false]; omega
  have h := h (evL b w s)
  unfold cntP
  simp only [List.sum_cons, List.sum_nil]
  omega
theorem sc_is_integer : FnScope ["thing"] ["thing"] (defScope s_is_integer) := ⟨rfl, rfl, rfl, by decide +kernel, rfl, by decide +kernel, by decide +kernel⟩
theorem ar_is_integer : ∀ ds S Q E, sp_is_integer ds S Q E → ds.length = 1 := by
  rintro ds S Q E h
  simp only [sp_is_integer] at h
  obtain ⟨_, h⟩ := h
  repeat (first | (obtain ⟨rfl, _⟩ := h; rfl) | (obtain ⟨_, h⟩ := h))
section
variable {P : Program} {w : World} {K : PySem.W.Frag} {mg : Str → Option Value} {base : Heap}
theorem O_is_integer (A : Al K mg) {f : Addr} {fd : FuncData} (Fu : FunD K "is_integer" "is_integer" (defArgs s_is_integer) (defBody s_is_integer) (defScope s_is_integer) [] [] f fd) : FnG P w K mg base CX0 1 f fd ["thing"] (spD K sp_is_integer) := by
  refine fn_d Fu sc_is_integer ar_is_integer (fun cdv A0 outer s0 H0 E0' hr => ⟨_, _,
      (db_one (ds_ret (de_and (de_isiK K .int rfl A.b_isinstance (de_var 0) A.b_int) (de_one (de_not (de_isiK K .bool rfl A.b_isinstance (de_var 0) A.b_bool)))))),
      ?_⟩)
  all_goals (
    rintro ds S Q Ed ⟨x, rfl, pl, q⟩
    simp! [rd_pl pl, pl]
    cases x <;> simp_all [isK, isInt] <;> exact outK.same q)
theorem D_is_integer (A : Al K mg) : Def P w K mg base CX0 1 "is_integer" ["thing"] sp_is_integer := by
  obtain ⟨f, fd, Fu, hm, hb⟩ := fu_is_integer A
  exact ⟨f, fd, O_is_integer A Fu, hm, Fu.kp, hb⟩
end
theorem sc_is_tuple : FnScope ["thing", "least", "most"] ["thing", "least", "most"] (defScope s_is_tuple) := ⟨rfl, rfl, rfl, by decide +kernel, rfl, by decide +kernel, by decide +kernel⟩
theorem ar_is_tuple : ∀ ds S Q E, sp_is_tuple ds S Q E → ds.length = 3 := by
  rintro ds S Q E h
  simp only [sp_is_tuple] at h
  obtain ⟨_, h⟩ := h
  repeat (first | (obtain ⟨rfl, _⟩ := h; rfl) | (obtain ⟨_, h⟩ := h))
section
variable {P : Program} {w : World} {K : PySem.W.Frag} {mg : Str → Option Value} {base : Heap}
theorem O_is_tuple (A : Al K mg) {f : Addr} {fd : FuncData} (Fu : FunD K "is_tuple" "is_tuple" (defArgs s_is_tuple) (defBody s_is_tuple) (defScope s_is_tuple) [] [] f fd) : FnG P w K mg base CX0 1 f fd ["thing", "least", "most"] (spD K sp_is_tuple) := by
  refine fn_d Fu sc_is_tuple ar_is_tuple (fun cdv A0 outer s0 H0 E0' hr => ⟨_, _,
      (db_one (ds_ret (de_and (de_isiK K .tuple rfl A.b_isinstance (de_var 0) A.b_tuple) (de_one (de_ch op_le op_le ro_IB ro_IB (de_var 1) (de_cb (call_lenK K) roc_len rfl A.b_len (by decide +kernel) (da_cons (de_var 0) da_nil)) (de_var 2)))))),
      ?_⟩)
  all_goals (
    rintro ds S Q Ed ⟨x, lo, hi, rfl, pl, q⟩
    simp! [rd_pl pl, pl]
    cases x <;> first | exact outK.same q | skip
    rename_i l
    simp! []
    refine ite_bl (fun h => ?_) (fun h => ?_) <;> simp only [isTup, h, Bool.true_and, Bool.false_and] at q <;> exact outK.same q)
theorem D_is_tuple (A : Al K mg) : Def P w K mg base CX0 1 "is_tuple" ["thing", "least", "most"] sp_is_tuple := by
  obtain ⟨f, fd, Fu, hm, hb⟩ := fu_is_tuple A
  exact ⟨f, fd, O_is_tuple A Fu, hm, Fu.kp, hb⟩
end
theorem sc_lowest : FnScope ["top", "bottom", "one", "other"] ["top", "bottom"] (defScope s_lowest) := ⟨rfl, rfl, rfl, by decide +kernel, rfl, by decide +kernel, by decide +kernel⟩
theorem ar_lowest : ∀ ds S Q E, sp_lowest ds S Q E → ds.length = 2 := by
  rintro ds S Q E h
  simp only [sp_lowest] at h
  obtain ⟨_, h⟩ := h
  repeat (first | (obtain ⟨rfl, _⟩ := h; rfl) | (obtain ⟨_, h⟩ := h))
section
variable {P : Program} {w : World} {K : PySem.W.Frag} {mg : Str → Option Value} {base : Heap}
theorem O_lowest (A : Al K mg) {f : Addr} {fd : FuncData} (Fu : FunD K "lowest" "lowest" (defArgs s_lowest) (defBody s_lowest) (defScope s_lowest) [] [] f fd) : FnG P w K mg base CX0 1 f fd ["top", "bottom"] (spD K sp_lowest) := by
  refine fn_d Fu sc_lowest ar_lowest (fun cdv A0 outer s0 H0 E0' hr => ⟨_, _,
      (db_cons (ds_par 2 3 rfl sc_lowest.nd (by decide) (da_cons (de_var 0) (da_cons (de_var 1) da_nil)))
      (db_cons (ds_while PassesOwn.never (dt_cmp op_gt ro_IB (de_var 3) de_int (nomark _))
        (db_one (ds_par 2 3 rfl sc_lowest.nd (by decide) (da_cons (de_var 3) (da_cons (de_op op_mod ro_II (de_var 2) (de_var 3)) da_nil)))))
      (db_one (ds_ret (de_tup (da_cons (de_op op_fdiv ro_II (de_var 0) (de_var 2)) (da_cons (de_op op_fdiv ro_II (de_var 1) (de_var 2)) da_nil))))))),
      ?_⟩)
  all_goals (
    rintro ds S Q Ed ⟨x, y, rfl, hx, hy, q⟩
    simp! [wPar]
    refine ⟨fun n ρ S' => S' = S ∧ ∃ u v : Nat, n = v ∧ Nat.gcd u v = Int.gcd x y ∧ ρ = [some (.int x), some (.int y), some (.int (u : Int)), some (.int (v : Int))], ⟨_, rfl, x.toNat, y.toNat, rfl, gcd_nn hx (by omega), by rw [show ((x.toNat : Nat) : Int) = x by omega, show ((y.toNat : Nat) : Int) = y by omega]⟩, fun n ρ S' h => ?_⟩
    obtain ⟨rfl, u, v, rfl, hg, rfl⟩ := h
    have hgp := gcd_small (x := x) hy.1
    simp! [wPar]
    refine ite_any (fun h => ?_) (fun h => ?_)
    · have h : 0 < n := by have := of_decide_eq_true h; omega
      refine ⟨by omega, n2c ⟨u % n, Nat.mod_lt _ h, n, by rw [← hg]; exact gcd_st u n, rfl, rfl⟩⟩
    · have h : n = 0 := by
        have : ¬ (0 : Int) < (n : Int) := fun z => h (decide_eq_true z)
        omega
      subst h
      rw [Nat.gcd_zero_right] at hg
      subst hg
      refine ⟨⟨by omega, by omega⟩, ⟨by omega, by omega⟩, le_sz (by decide), outK.same q⟩)
theorem D_lowest (A : Al K mg) : Def P w K mg base CX0 1 "lowest" ["top", "bottom"] sp_lowest := by
  obtain ⟨f, fd, Fu, hm, hb⟩ := fu_lowest A
  exact ⟨f, fd, O_lowest A Fu, hm, Fu.kp, hb⟩
end
theorem sc_check_small : FnScope ["book"] ["book"] (defScope s_check_small) := ⟨rfl, rfl, rfl, by decide +kernel, rfl, by decide +kernel, by decide +kernel⟩
theorem ar_check_small : ∀ ds S Q E, sp_check_small ds S Q E → ds.length = 1 := by
  rintro ds S Q E h
  simp only [sp_check_small] at h
  obtain ⟨_, h⟩ := h
  repeat (first | (obtain ⟨rfl, _⟩ := h; rfl) | (obtain ⟨_, h⟩ := h))
section
variable {P : Program} {w : World} {K : PySem.W.Frag} {mg : Str → Option Value} {base : Heap}
theorem O_check_small (A : Al K mg) {f : Addr} {fd : FuncData} (Fu : FunD K "check_small" "check_small" (defArgs s_check_small) (defBody s_check_small) (defScope s_check_small) [] [] f fd) : FnG P w K mg base CX0 1 f fd ["book"] (spD K sp_check_small) := by
  refine fn_d Fu sc_check_small ar_check_small (fun cdv A0 outer s0 H0 E0' hr => ⟨_, _,
      (db_one (ds_if (dt_cmp op_gt ro_IB (de_fld K A.cls_Book A.na_Book_count (de_var 0)) (de_gint rfl A.c_MOST_PLANNED) (nomark _))
        (db_one ds_never)
        db_nil)),
      ?_⟩)
  all_goals (
    rintro ds S Q Ed ⟨b, lk, rfl, hb, q⟩
    simp! [bkV, D.obj.injEq, f_count]
    rw [if_neg (by simp; omega)]
    exact outK.same q)
theorem D_check_small (A : Al K mg) : Def P w K mg base CX0 1 "check_small" ["book"] sp_check_small := by
  obtain ⟨f, fd, Fu, hm, hb⟩ := fu_check_small A
  exact ⟨f, fd, O_check_small A Fu, hm, Fu.kp, hb⟩
end
theorem sc_common : FnScope ["one", "other"] ["one", "other"] (defScope s_common) := ⟨rfl, rfl, rfl, by decide +kernel, rfl, by decide +kernel, by decide +kernel⟩
theorem ar_common : ∀ ds S Q E, sp_common ds S Q E → ds.length = 2 := by
  rintro ds S Q E h
  simp only [sp_common] at h
  obtain ⟨_, h⟩ := h
  repeat (first | (obtain ⟨rfl, _⟩ := h; rfl) | (obtain ⟨_, h⟩ := h))
section
variable {P : Program} {w : World} {K : PySem.W.Frag} {mg : Str → Option Value} {base : Heap}
theorem O_common (A : Al K mg) {f : Addr} {fd : FuncData} (Fu : FunD K "common" "common" (defArgs s_common) (defBody s_common) (defScope s_common) [] [] f fd) : FnG P w K mg base CX0 1 f fd ["one", "other"] (spD K sp_common) := by
  refine fn_d Fu sc_common ar_common (fun cdv A0 outer s0 H0 E0' hr => ⟨_, _,
      (db_cons (ds_par 0 1 rfl sc_common.nd (by decide) (da_cons (de_cb call_abs roc_abs rfl A.b_abs (by decide +kernel) (da_cons (de_var 0) da_nil)) (da_cons (de_cb call_abs roc_abs rfl A.b_abs (by decide +kernel) (da_cons (de_var 1) da_nil)) da_nil)))
      (db_cons (ds_while PassesOwn.never (dt_cmp op_gt ro_IB (de_var 1) de_int (nomark _))
        (db_one (ds_par 0 1 rfl sc_common.nd (by decide) (da_cons (de_var 1) (da_cons (de_op op_mod ro_II (de_var 0) (de_var 1)) da_nil)))))
      (db_one (ds_ret (de_var 0))))),
      ?_⟩)
  all_goals (
    rintro ds S Q Ed ⟨x, y, rfl, q⟩
    simp! [wPar, ab_eq]
    refine ⟨fun n ρ S' => S' = S ∧ ∃ u v : Nat, n = v ∧ Nat.gcd u v = Int.gcd x y ∧ ρ = [some (.int (u : Int)), some (.int (v : Int))], ⟨_, rfl, x.natAbs, y.natAbs, rfl, rfl, rfl⟩, fun n ρ S' h => ?_⟩
    obtain ⟨rfl, u, v, rfl, hg, rfl⟩ := h
    simp! [wPar]
    refine ite_any (fun h => ?_) (fun h => ?_)
    · have h : 0 < n := by have := of_decide_eq_true h; omega
      refine ⟨by omega, n2c ⟨u % n, Nat.mod_lt _ h, n, by rw [← hg]; exact gcd_st u n, rfl, rfl⟩⟩
    · have h : n = 0 := by
        have : ¬ (0 : Int) < (n : Int) := fun z => h (decide_eq_true z)
        omega
      subst h
      rw [Nat.gcd_zero_right] at hg
      subst hg
      exact outK.same q)
theorem D_common (A : Al K mg) : Def P w K mg base CX0 1 "common" ["one", "other"] sp_common := by
  obtain ⟨f, fd, Fu, hm, hb⟩ := fu_common A
  exact ⟨f, fd, O_common A Fu, hm, Fu.kp, hb⟩
end
theorem sc__law_hand : FnScope ["script", "cells", "cell"] ["script"] (defScope s__law_hand) := ⟨rfl, rfl, rfl, by decide +kernel, rfl, by decide +kernel, by decide +kernel⟩
theorem ar__law_hand : ∀ ds S Q E, sp__law_hand ds S Q E → ds.length = 1 := by
  rintro ds S Q E h
  simp only [sp__law_hand] at h
  obtain ⟨_, h⟩ := h
  repeat (first | (obtain ⟨rfl, _⟩ := h; rfl) | (obtain ⟨_, h⟩ := h))
section
variable {P : Program} {w : World} {K : PySem.W.Frag} {mg : Str → Option Value} {base : Heap}
theorem O__law_hand (A : Al K mg) {f : Addr} {fd : FuncData} (Fu : FunD K "_law_hand" "_law_hand" (defArgs s__law_hand) (defBody s__law_hand) (defScope s__law_hand) [] [] f fd) : FnG P w K mg base CX0 1 f fd ["script"] (spD K sp__law_hand) := by
  refine fn_d Fu sc__law_hand ar__law_hand (fun cdv A0 outer s0 H0 E0' hr => ⟨_, _,
      (db_cons (ds_setLc true 1 [("cell", 2)] rfl sc__law_hand.nd (di_seqK K (de_slK K false (de_var 0) do_none (do_some de_int))) (blkOk_by (by kernel_rfl)) (fun _ _ _ _ _ => (dg_name (vs := [2]) 2 (by decide) sc__law_hand.nd)) (fun _ _ _ _ _ => dts_nil) (fun _ _ _ _ _ => (de_cb call_abs roc_abs rfl A.b_abs (by decide +kernel) (da_cons (de_ct call_int1 roc_int rfl A.b_int (by decide +kernel) (da_cons (de_var 2) da_nil)) da_nil))))
      (db_one (ds_ret (de_lst true (da_cons (de_var 1) (da_cons de_int (da_cons de_int (da_cons (de_op (op_addK K) (ro_add false) de_int (de_cb (call_lenK K) roc_len rfl A.b_len (by decide +kernel) (da_cons (de_var 1) da_nil))) (da_cons de_int da_nil))))))))),
      ?_⟩)
  all_goals (
    rintro ds S Q Ed ⟨ns, rfl, q⟩
    simp! []
    rw [cutD_to (by decide)]
    have e1 : ∀ {c : Addr} {l : List D}, rd (S.set c (.lst l)) (.ref c) = .lst l := z_rd_set
    refine compL_mapT (fun d => match d with | .int i => .int (if i < 0 then -i else i) | _ => .non) noG_any (le_sz (by rw [List.length_take]; omega)) (fun d hd S' sub N hN => ?_) (fun c hc => ?_)
    · obtain ⟨i, _, rfl⟩ := List.mem_map.mp (List.mem_of_mem_take hd)
      simp! []
      exact hN
    · rw [← List.map_take, List.map_map]
      have e2 : (ns.take (Int.toNat 63)).map ((fun d => match d with | .int i => D.int (if i < 0 then -i else i) | _ => .non) ∘ D.int) = ((ns.take (Int.toNat 63)).map fun i => if i < 0 then -i else i).map D.int := by
        rw [List.map_map]
        rfl
      rw [e2]
      simp! [e1]
      refine ⟨le_sz (by decide), fun t ht => ?_⟩
      have tc : t ≠ c := fun e => by
        rw [e, MS.set_same] at ht
        cases ht
      rw [MS.set_ne tc] at ht
      rw [opened_mk (Ne.symm tc)]
      refine outK.same (q t c _ _ ht hc (Ne.symm tc) ⟨0, 0, _, 0, rfl, Int.le_refl _, ?_⟩)
      rw [List.length_map, List.length_take]
      exact Nat.min_le_left _ _)
theorem D__law_hand (A : Al K mg) : Def P w K mg base CX0 1 "_law_hand" ["script"] sp__law_hand := by
  obtain ⟨f, fd, Fu, hm, hb⟩ := fu__law_hand A
  exact ⟨f, fd, O__law_hand A Fu, hm, Fu.kp, hb⟩
end
section
variable {P : Program} {w : World} {K : PySem.W.Frag} {mg : Str → Option Value} {base : Heap}
theorem V__law_hand (A : Al K mg) : Def P w K mg base CX0 1 "_law_hand" ["script"] (handSp JH) := hand_of intJH (D__law_hand A)
end
theorem sc__law_draw : FnScope ["hand", "sides", "cell", "digit", "number"] ["hand", "sides"] (defScope s__law_draw) := ⟨rfl, rfl, rfl, by decide +kernel, rfl, by decide +kernel, by decide +kernel⟩
theorem ar__law_draw : ∀ ds S Q E, sp__law_draw ds S Q E → ds.length = 2 := by
  rintro ds S Q E h
  simp only [sp__law_draw] at h
  obtain ⟨_, h⟩ := h
  repeat (first | (obtain ⟨rfl, _⟩ := h; rfl) | (obtain ⟨_, h⟩ := h))
section
variable {P : Program} {w : World} {K : PySem.W.Frag} {mg : Str → Option Value} {base : Heap}
theorem O__law_draw (A : Al K mg) {f : Addr} {fd : FuncData} (Fu : FunD K "_law_draw" "_law_draw" (defArgs s__law_draw) (defBody s__law_draw) (defScope s__law_draw) [] [] f fd) : FnG P w K mg base CX0 1 f fd ["hand", "sides"] (spD K sp__law_draw) := by
  refine fn_d Fu sc__law_draw ar__law_draw (fun cdv A0 outer s0 H0 E0' hr => ⟨_, _,
      (db_cons (ds_if (dt_w (dw_and (dt_cmp (op_eqK K hr.units) ro_eq (de_ixK K (de_var 0) de_int) de_int (nomark _)) (dw_and1 (dt_cmp op_lt ro_IB (de_ixK K (de_var 0) de_int) (de_cb (call_lenK K) roc_len rfl A.b_len (by decide +kernel) (da_cons (de_ixK K (de_var 0) de_int) da_nil)) (nomark _)))))
        (db_cons (ds_set 2 sc__law_draw.nd (de_ixK K (de_ixK K (de_var 0) de_int) (de_ixK K (de_var 0) de_int)))
        (db_cons (ds_asg (vs := []) (de_op (op_addK K) (ro_add false) (de_ixK K (de_var 0) de_int) de_int) (dg_setL (de_var 0) de_int))
        (db_cons (ds_asg (vs := []) (de_op op_mod ro_II (de_ct call_int1 roc_int rfl A.b_int (by decide +kernel) (da_cons (de_op (op_addK K) (ro_add false) (de_op (op_addK K) (ro_add false) (de_op (op_mulK K) (ro_mul false) (de_ixK K (de_var 0) de_int) de_int) (de_op (op_mulK K) (ro_mul false) (de_var 2) de_int)) de_int) da_nil)) de_int) (dg_setL (de_var 0) de_int))
        (db_one (ds_if (dt_cmp op_ge ro_IB (de_var 2) (de_op op_pow ro_II de_int de_int) (nomark _))
          (db_one (ds_asg (vs := []) (de_var 2) (dg_setL (de_var 0) de_int)))
          db_nil)))))
        db_nil)
      (db_cons (ds_if (dt_cmp op_gt ro_IB (de_ixK K (de_var 0) de_int) de_int (nomark _))
        (db_cons (ds_set 3 sc__law_draw.nd (de_op op_mod ro_II (de_ct call_int1 roc_int rfl A.b_int (by decide +kernel) (da_cons (de_ixK K (de_var 0) de_int) da_nil)) (de_var 1)))
        (db_cons (ds_asg (vs := []) (de_op op_fdiv ro_II (de_ixK K (de_var 0) de_int) (de_var 1)) (dg_setL (de_var 0) de_int))
        (db_one (ds_ret (de_var 3)))))
        db_nil)
      (db_cons (ds_asg (vs := []) (de_op (op_addK K) (ro_add false) (de_ixK K (de_var 0) de_int) de_int) (dg_setL (de_var 0) de_int))
      (db_cons (ds_set 4 sc__law_draw.nd (de_op op_mod ro_II (de_ct call_int1 roc_int rfl A.b_int (by decide +kernel) (da_cons (de_op (op_mulK K) (ro_mul false) (de_ct call_int1 roc_int rfl A.b_int (by decide +kernel) (da_cons (de_op (op_addK K) (ro_add false) (de_ixK K (de_var 0) de_int) (de_op (op_mulK K) (ro_mul false) de_int (de_ixK K (de_var 0) de_int))) da_nil)) de_int) da_nil)) de_int))
      (db_cons (ds_set 4 sc__law_draw.nd (de_op op_mod ro_II (de_ct call_int1 roc_int rfl A.b_int (by decide +kernel) (da_cons (de_op (op_mulK K) (ro_mul false) (de_var 4) (de_op (op_addK K) (ro_add false) (de_op op_fdiv ro_II (de_var 4) de_int) de_int)) da_nil)) de_int))
      (db_cons (ds_set 4 sc__law_draw.nd (de_op op_mod ro_II (de_ct call_int1 roc_int rfl A.b_int (by decide +kernel) (da_cons (de_op (op_mulK K) (ro_mul false) (de_var 4) (de_op (op_addK K) (ro_add false) (de_op op_fdiv ro_II (de_var 4) de_int) de_int)) da_nil)) de_int))
      (db_one (ds_ret (de_op op_mod ro_II (de_ct call_int1 roc_int rfl A.b_int (by decide +kernel) (da_cons (de_op op_fdiv ro_II (de_var 4) de_int) da_nil)) (de_var 1)))))))))),
      ?_⟩)
  all_goals (
    rintro ds S' Q Ed ⟨S, t, c, n, xs, cells, rfl, rfl, ⟨p, b, r, m, rfl, hp, hz⟩, sc, ct, hn, q⟩
    have e1 : ∀ (xs : List D) (cs : List Int), rd (opened S t c xs cs) (.ref t) = .lst xs := fun _ _ => z_rd_opt ct
    have e2 : ∀ (xs : List D) (cs : List Int), rd (opened S t c xs cs) (.ref c) = .lst (cs.map D.int) := fun _ _ => z_rd_opc
    have s1 : ∀ (a b c' d e v : D) (cs : List Int) (R : MS → Prop), wSetL (.ref t) (.int 1) v (opened S t c [a, b, c', d, e] cs) R ↔ R (opened S t c [a, v, c', d, e] cs) := fun _ _ _ _ _ _ _ _ => setL_op_iff (j := 1) ct rfl
    have s2 : ∀ (a b c' d e v : D) (cs : List Int) (R : MS → Prop), wSetL (.ref t) (.int 2) v (opened S t c [a, b, c', d, e] cs) R ↔ R (opened S t c [a, b, v, d, e] cs) := fun _ _ _ _ _ _ _ _ => setL_op_iff (j := 2) ct rfl
    have s3 : ∀ (a b c' d e v : D) (cs : List Int) (R : MS → Prop), wSetL (.ref t) (.int 3) v (opened S t c [a, b, c', d, e] cs) R ↔ R (opened S t c [a, b, c', v, e] cs) := fun _ _ _ _ _ _ _ _ => setL_op_iff (j := 3) ct rfl
    have s4 : ∀ (a b c' d e v : D) (cs : List Int) (R : MS → Prop), wSetL (.ref t) (.int 4) v (opened S t c [a, b, c', d, e] cs) R ↔ R (opened S t c [a, b, c', d, v] cs) := fun _ _ _ _ _ _ _ _ => setL_op_iff (j := 4) ct rfl
    have tn : Int.toNat 18 = 18 := rfl
    have fin : ∀ (i p b r m : Int), 0 ≤ p → 0 ≤ i → i < n → outK Q (.int i) (opened S t c [D.ref c, D.int p, D.int b, D.int r, D.int m] cells) := fun i p b r m h0 h1 h2 => outK.same (q i _ _ h1 h2 ⟨p, b, r, m, rfl, h0, hz⟩)
    have md : ∀ x : Int, 0 ≤ x % n ∧ x % n < n := fun x => ⟨Int.emod_nonneg _ (by omega), Int.emod_lt_of_pos _ hn.1⟩
    simp! [e1, e2, s1, s2, s3, s4]
    have cmr : ∀ x k : Int, -(2 ^ 64) < k ∧ k < 2 ^ 64 → CMul x k := fun x k h => .inr h
    have cml : ∀ x k : Int, -(2 ^ 64) < x ∧ x < 2 ^ 64 → CMul x k := fun x k h => .inl h
    refine ite_bl (fun h => ?_) (fun h => ?_)
    · refine ite_bl (fun h2 => ?_) (fun h2 => ?_)
      · have h2' : p < (cells.map D.int).length := of_decide_eq_true h2
        have h3 : p.toNat < cells.length := by rw [List.length_map] at h2'; omega
        have e4 : (cells.map D.int).getD p.toNat .non = .int (cells.getD p.toNat 0) := by
          rw [List.getD_eq_getElem?_getD, List.getD_eq_getElem?_getD, List.getElem?_map, List.getElem?_eq_getElem h3]
          rfl
        generalize cells.getD p.toNat 0 = cell at e4
        simp! [e1, e2, s1, s2, s3, s4, z_ix_lt hp h2', e4]
        repeat' first | with_reducible exact fin _ _ _ _ _ (by omega) (md _).1 (md _).2 | with_reducible apply And.intro | refine ite_bl (fun _ => ?_) (fun _ => ?_) | exact ⟨by decide, by decide, by decide⟩ | exact ⟨by omega, by omega⟩ | exact cmr _ _ (by omega) | exact cml _ _ (by omega) | omega
      · repeat' first | with_reducible exact fin _ _ _ _ _ (by omega) (md _).1 (md _).2 | with_reducible apply And.intro | refine ite_bl (fun _ => ?_) (fun _ => ?_) | exact ⟨by omega, by omega⟩ | exact cmr _ _ (by omega) | exact cml _ _ (by omega) | omega
    · repeat' first | with_reducible exact fin _ _ _ _ _ (by omega) (md _).1 (md _).2 | with_reducible apply And.intro | refine ite_bl (fun _ => ?_) (fun _ => ?_) | exact ⟨by omega, by omega⟩ | exact cmr _ _ (by omega) | exact cml _ _ (by omega) | omega)
theorem D__law_draw (A : Al K mg) : Def P w K mg base CX0 1 "_law_draw" ["hand", "sides"] sp__law_draw := by
  obtain ⟨f, fd, Fu, hm, hb⟩ := fu__law_draw A
  exact ⟨f, fd, O__law_draw A Fu, hm, Fu.kp, hb⟩
end
section
variable {P : Program} {w : World} {K : PySem.W.Frag} {mg : Str → Option Value} {base : Heap}
theorem V__law_draw (A : Al K mg) : Def P w K mg base CX0 1 "_law_draw" ["hand", "sides"] (drawSp JH) := draw_of intJH (D__law_draw A)
end
theorem sc__law_is : FnScope ["told", "due"] ["told", "due"] (defScope s__law_is) := ⟨rfl, rfl, rfl, by decide +kernel, rfl, by decide +kernel, by decide +kernel⟩
theorem ar__law_is : ∀ ds S Q E, sp__law_is ds S Q E → ds.length = 2 := by
  rintro ds S Q E h
  simp only [sp__law_is] at h
  obtain ⟨_, h⟩ := h
  repeat (first | (obtain ⟨rfl, _⟩ := h; rfl) | (obtain ⟨_, h⟩ := h))
section
variable {P : Program} {w : World} {K : PySem.W.Frag} {mg : Str → Option Value} {base : Heap}
theorem O__law_is (A : Al K mg) {f : Addr} {fd : FuncData} (Fu : FunD K "_law_is" "_law_is" (defArgs s__law_is) (defBody s__law_is) (defScope s__law_is) [] [] f fd) : FnG P w K mg base CX0 1 f fd ["told", "due"] (spD K sp__law_is) := by
  refine fn_d Fu sc__law_is ar__law_is (fun cdv A0 outer s0 H0 E0' hr => ⟨_, _,
      (db_cons (ds_if (dt_w (dw_or (dt_cmp (op_neK K hr.units) ro_ne (de_isiK K .bool rfl A.b_isinstance (de_var 0) A.b_bool) (de_isiK K .bool rfl A.b_isinstance (de_var 1) A.b_bool) (nomark _)) (dw_or1 (dt_cmp (op_neK K hr.units) ro_ne (de_isiK K .int rfl A.b_isinstance (de_var 0) A.b_int) (de_isiK K .int rfl A.b_isinstance (de_var 1) A.b_int) (nomark _)))))
        (db_one (ds_ret de_bl))
        db_nil)
      (db_one (ds_ret (de_cmp (op_eqK K hr.units) ro_eq (de_var 0) (de_var 1) (nomark _))))),
      ?_⟩)
  all_goals (
    rintro ds S Q Ed ⟨n, rfl, q⟩
    simp! []
    exact ite_any (fun h => by simp at h) (fun _ => ite_any (fun h => by simp at h) (fun _ => outK.same q)))
theorem D__law_is (A : Al K mg) : Def P w K mg base CX0 1 "_law_is" ["told", "due"] sp__law_is := by
  obtain ⟨f, fd, Fu, hm, hb⟩ := fu__law_is A
  exact ⟨f, fd, O__law_is A Fu, hm, Fu.kp, hb⟩
end
theorem sc__law_unlike : FnScope ["one", "other", "found", "at", "a", "b"] ["one", "other"] (defScope s__law_unlike) := ⟨rfl, rfl, rfl, by decide +kernel, rfl, by decide +kernel, by decide +kernel⟩
theorem ar__law_unlike : ∀ ds S Q E, sp__law_unlike ds S Q E → ds.length = 2 := by
  rintro ds S Q E h
  simp only [sp__law_unlike] at h
  obtain ⟨_, h⟩ := h
  repeat (first | (obtain ⟨rfl, _⟩ := h; rfl) | (obtain ⟨_, h⟩ := h))
section
variable {P : Program} {w : World} {K : PySem.W.Frag} {mg : Str → Option Value} {base : Heap}
theorem O__law_unlike (A : Al K mg) {f : Addr} {fd : FuncData} (Fu : FunD K "_law_unlike" "_law_unlike" (defArgs s__law_unlike) (defBody s__law_unlike) (defScope s__law_unlike) [] [] f fd) : FnG P w K mg base CX0 1 f fd ["one", "other"] (spD K sp__law_unlike) := by
  refine fn_d Fu sc__law_unlike ar__law_unlike (fun cdv A0 outer s0 H0 E0' hr => ⟨_, _,
      (db_cons (ds_set 2 sc__law_unlike.nd de_int)
      (db_cons (ds_for (vs := [3, 4]) PassesOwn.never rfl (di_enumK K rfl A.b_enumerate (da_cons (de_var 0) da_nil)) (dg_tupK K (n := 2) rfl (dgs_cons (dg_name (vs := [3, 4]) 3 (by decide) sc__law_unlike.nd) (dgs_cons (dg_name (vs := [3, 4]) 4 (by decide) sc__law_unlike.nd) dgs_nil)))
        (db_one (ds_set 2 sc__law_unlike.nd (de_op (op_addK K) (ro_add false) (de_var 2) (de_cb (call_lenK K) roc_len rfl A.b_len (by decide +kernel) (da_cons (de_lc false [("b", 5)] rfl sc__law_unlike.nd (di_seqK K (de_slK K false (de_var 0) (do_some (de_op (op_addK K) (ro_add false) (de_var 3) de_int)) do_none)) (blkOk_by (by kernel_rfl)) (fun _ _ _ _ _ => (dg_name (vs := [5]) 5 (by decide) sc__law_unlike.nd)) (fun _ _ _ _ _ => (dts_one (dt_cmp op_lt ro_IB (de_bmT K PySem.F.plainAttrs_tuple PySem.F.slot_tuple_index PySem.F.type_tuple_index (mt_indexT K) rm_indexT (de_var 1) (da_cons (de_var 5) da_nil)) (de_bmT K PySem.F.plainAttrs_tuple PySem.F.slot_tuple_index PySem.F.type_tuple_index (mt_indexT K) rm_indexT (de_var 1) (da_cons (de_var 4) da_nil)) (nomark _)))) (fun _ _ _ _ _ => (de_var 5))) da_nil))))))
      (db_one (ds_ret (de_var 2))))),
      ?_⟩)
  all_goals (
    rintro ds S Q Ed ⟨_, _, rfl, h⟩
    exact h.elim)
theorem D__law_unlike (A : Al K mg) : Def P w K mg base CX0 1 "_law_unlike" ["one", "other"] sp__law_unlike := by
  obtain ⟨f, fd, Fu, hm, hb⟩ := fu__law_unlike A
  exact ⟨f, fd, O__law_unlike A Fu, hm, Fu.kp, hb⟩
end
theorem sc__law_plans : FnScope ["parts", "window", "strict", "count", "overs", "dates", "kinds", "found", "layer", "early", "late", "longer", "row", "time", "step", "a", "b"] ["parts", "window", "strict"] (defScope s__law_plans) := ⟨rfl, rfl, rfl, by decide +kernel, rfl, by decide +kernel, by decide +kernel⟩
theorem ar__law_plans : ∀ ds S Q E, sp__law_plans ds S Q E → ds.length = 3 := by
  rintro ds S Q E h
  simp only [sp__law_plans] at h
  obtain ⟨_, h⟩ := h
  repeat (first | (obtain ⟨rfl, _⟩ := h; rfl) | (obtain ⟨_, h⟩ := h))
section
variable {P : Program} {w : World} {K : PySem.W.Frag} {mg : Str → Option Value} {base : Heap}
theorem O__law_plans (A : Al K mg) {f : Addr} {fd : FuncData} (Fu : FunD K "_law_plans" "_law_plans" (defArgs s__law_plans) (defBody s__law_plans) (defScope s__law_plans) [] [] f fd) : FnG P w K mg base CX0 1 f fd ["parts", "window", "strict"] (spD K sp__law_plans) := by
  refine fn_d Fu sc__law_plans ar__law_plans (fun cdv A0 outer s0 H0 E0' hr => ⟨_, _,
      (db_cons (ds_asg (vs := [3, 4, 5, 6]) (de_var 0) (dg_tupK K (n := 4) rfl (dgs_cons (dg_name (vs := [3, 4, 5, 6]) 3 (by decide) sc__law_plans.nd) (dgs_cons (dg_name (vs := [3, 4, 5, 6]) 4 (by decide) sc__law_plans.nd) (dgs_cons (dg_name (vs := [3, 4, 5, 6]) 5 (by decide) sc__law_plans.nd) (dgs_cons (dg_name (vs := [3, 4, 5, 6]) 6 (by decide) sc__law_plans.nd) dgs_nil))))))
      (db_cons (ds_set 7 sc__law_plans.nd (de_lst false (da_cons (de_tup da_nil) da_nil)))
      (db_cons (ds_for (vs := [8]) PassesOwn.never rfl (di_range1 rfl A.b_range (da_cons (de_var 3) da_nil)) (dg_name (vs := [8]) 8 (by decide) sc__law_plans.nd)
        (db_cons (ds_asg (vs := [9, 10]) (de_ixK K (de_var 5) (de_var 8)) (dg_tupK K (n := 2) rfl (dgs_cons (dg_name (vs := [9, 10]) 9 (by decide) sc__law_plans.nd) (dgs_cons (dg_name (vs := [9, 10]) 10 (by decide) sc__law_plans.nd) dgs_nil))))
        (db_cons (ds_set 11 sc__law_plans.nd (de_lst true da_nil))
        (db_cons (ds_for (vs := [12]) PassesOwn.never rfl (di_seqK K (de_var 7)) (dg_name (vs := [12]) 12 (by decide) sc__law_plans.nd)
          (db_one (ds_for (vs := [13]) PassesOwn.never rfl (di_range2 rfl A.b_range (da_cons (de_ixK K (de_var 1) de_int) (da_cons (de_op (op_addK K) (ro_add false) (de_ixK K (de_var 1) de_int) de_int) da_nil))) (dg_name (vs := [13]) 13 (by decide) sc__law_plans.nd)
            (db_one (ds_if (dt_w (dw_and (dt_w (dw_or (dt_cmp op_isN ro_isN (de_var 9) de_non (nomark _)) (dw_or1 (dt_cmp op_le ro_IB (de_var 9) (de_var 13) (nomark _))))) (dw_and1 (dt_w (dw_or (dt_cmp op_isN ro_isN (de_var 10) de_non (nomark _)) (dw_or1 (dt_cmp op_le ro_IB (de_var 13) (de_var 10) (nomark _))))))))
              (db_one (ds_expr (de_bmK K PySem.F.plainAttrs_list PySem.F.slot_list_append PySem.F.type_list_append mt_append rm_append (de_var 11) (da_cons (de_op (op_addK K) (ro_add false) (de_var 12) (de_tup (da_cons (de_var 13) da_nil))) da_nil))))
              db_nil)))))
        (db_one (ds_set 7 sc__law_plans.nd (de_varF 11)))))))
      (db_cons (ds_set 14 sc__law_plans.nd (de_ct call_int1 roc_int rfl A.b_int (by decide +kernel) (da_cons (de_var 2) da_nil)))
      (db_one (ds_ret (de_lc false [("row", 12)] rfl sc__law_plans.nd (di_seqK K (de_var 7)) (blkOk_by (by kernel_rfl)) (fun _ _ _ _ _ => (dg_name (vs := [12]) 12 (by decide) sc__law_plans.nd)) (fun _ _ _ _ _ => (dts_one (dt_val (de_cb (cr_allK K rfl) roc_all rfl A.b_all (by decide +kernel) (da_cons (de_lc false [("a", 15), ("b", 16)] rfl sc__law_plans.nd (di_seqK K (de_var 4)) (blkOk_by (by kernel_rfl)) (fun _ _ _ _ _ => (dg_tupK K (n := 2) rfl (dgs_cons (dg_name (vs := [15, 16]) 15 (by decide) sc__law_plans.nd) (dgs_cons (dg_name (vs := [15, 16]) 16 (by decide) sc__law_plans.nd) dgs_nil)))) (fun _ _ _ _ _ => dts_nil) (fun _ _ _ _ _ => (de_cmp op_ge ro_IB (de_op op_sub ro_I0 (de_ixK K (de_var 12) (de_var 15)) (de_ixK K (de_var 12) (de_var 16))) (de_var 14) (nomark _)))) da_nil))))) (fun _ _ _ _ _ => (de_var 12))))))))),
      ?_⟩)
  all_goals (
    rintro ds S Q Ed ⟨b, w, s, rfl, hb, hw, q⟩
    have hc1 := hb.1.1
    have hdl : b.dates.length = b.count.toNat := by have := hb.1.2.2.1.1; omega
    have hbl : (baseB b w).length = b.count.toNat := by unfold baseB; rw [List.length_map, hdl]
    have R5 : ∀ i, (rowsB ((baseB b w).take i)).length ≤ 625 := fun i => rows_len hb hw i
    obtain ⟨⟨hw1, hw2⟩, hw3, hw4⟩ := hw
    have hw : winOk w := ⟨⟨hw1, hw2⟩, hw3, hw4⟩
    simp! [specD, pD, wPar]
    refine ⟨Nat.zero_le _, le_sz (by decide), by omega, by omega, ?_⟩
    refine forW_n (fun i ρ S' => S' = S ∧ ∃ z8 z9 z10 z11 z12 z13, ρ = [some (specD b), some (pD w), some (.bl s), some (.int b.count), some (.tup (b.overs.map tupI)), some (.tup (b.dates.map fun p => D.tup [p.1, p.2])), some (.tup (b.kinds.map tupI)), some (.lst ((rowsB ((baseB b w).take i)).map tupI)), z8, z9, z10, z11, z12, z13, none, none, none]) (fun _ _ _ _ => trivial) (fun i d ρ S' hd h N hN => ?hs) (fun ρ S' h => ?hd) ⟨rfl, _, _, _, _, _, _, rfl⟩
    case hd =>
      obtain ⟨rfl, z8, z9, z10, z11, z12, z13, rfl⟩ := h
      rw [rangeD_length, ← hbl, List.take_length]
      have r5 := R5 (baseB b w).length
      rw [List.take_length] at r5
      simp! [z_int_blK]
      refine compL_fm (h := tupI) (fun r => okOv b.overs (stI s) r) noG_any (le_sz (by omega)) (fun r hr S2 sub N M hN hM => ?_) (outK.same q)
      have hrl : r.length = b.count.toNat := by rw [(inB_iff.mp (rowsB_mem.mp hr)).1, hbl]
      simp! []
      refine compAllM (fun o => okO (stI s) r o) noG_any (le_sz (by have := hb.2.2; omega)) (fun o ho S3 sub3 N3 hN3 => ?_) ?_
      · obtain ⟨x, y, rfl, h1, h2, h3⟩ := hb.1.2.1.1 o ho
        have gx : ∀ x : Int, 0 ≤ x → x < b.count → (r.map D.int)[x.toNat]? = some (.int (r.getD x.toNat 0)) := fun x h1 h2 => by
          have hx : x.toNat < r.length := by omega
          rw [List.getElem?_map, List.getD_eq_getElem?_getD, List.getElem?_eq_getElem hx]
          rfl
        simp! [tupI]
        rw [show x = ((x.toNat : Nat) : Int) by omega, show y = ((y.toNat : Nat) : Int) by omega]
        refine (z_ixtg (gx x h2.1 h2.2)).mpr ((z_ixtg (gx y h3.1 h3.2)).mpr ?_)
        simp! []
        exact hN3
      · exact ⟨_, rfl, ite_bl hN hM⟩
    case hs =>
      obtain ⟨rfl, z8, z9, z10, z11, z12, z13, rfl⟩ := h
      have hi : i < b.count.toNat := by have := (List.getElem?_eq_some_iff.mp hd).1; rw [rangeD_length] at this; exact this
      have hd := Option.some.inj ((rangeD_get (lo := 0) hi).symm.trans hd)
      rw [Int.zero_add] at hd
      subst hd
      obtain ⟨⟨e, l⟩, hel⟩ : ∃ p, b.dates[i]? = some p := ⟨_, List.getElem?_eq_getElem (by omega)⟩
      have hbi : (baseB b w)[i]? = some (lowB e w.1, highB l w.2) := by unfold baseB; rw [List.getElem?_map, hel]; rfl
      have hp := hb.1.2.2.1.2 _ (List.mem_of_getElem? hel)
      have tk : rowsB ((baseB b w).take (i + 1)) = (rowsB ((baseB b w).take i)).flatMap fun r => ((rngI w.1 w.2).filter (okT e l)).map fun t => r ++ [t] := by
        rw [List.take_add_one, hbi]
        show rowsB (_ ++ [_]) = _
        rw [rowsB_snoc, rngI_filter hp.1 hp.2.1]
      have r5 := R5 i
      have r6 := R5 (i + 1)
      rw [tk] at r6
      have hgd : (b.dates.map fun p => D.tup [p.1, p.2])[i]? = some (D.tup [e, l]) := by rw [List.getElem?_map, hel]; rfl
      simp! [z_ixtg hgd]
      refine ⟨Nat.zero_le _, fun a ha => ?_⟩
      have hz7 : some (D.lst ((rowsB ((baseB b w).take i)).map tupI)) = some (D.lst ((rowsB ((baseB b w).take i)).map tupI)) := rfl
      refine forW_n (fun j ρ S2 => S2 = S'.set a (.lst ((((rowsB ((baseB b w).take i)).take j).flatMap fun r => ((rngI w.1 w.2).filter (okT e l)).map fun t => r ++ [t]).map tupI)) ∧ ∃ z12 z13, ρ = [some (specD b), some (pD w), some (.bl s), some (.int b.count), some (.tup (b.overs.map tupI)), some (.tup (b.dates.map fun p => D.tup [p.1, p.2])), some (.tup (b.kinds.map tupI)), some (.lst ((rowsB ((baseB b w).take i)).map tupI)), some (.int (i : Int)), some e, some l, some (.ref a), z12, z13, none, none, none]) (fun _ _ _ _ => trivial) (fun j d ρ S2 hdj h M hM => ?hs) (fun ρ S2 h => ?hd) ⟨rfl, _, _, rfl⟩
      case hd =>
        obtain ⟨rfl, z12, z13, rfl⟩ := h
        rw [List.length_map, List.take_length, ← tk]
        simp! []
        refine ⟨_, MS.set_same, ?_⟩
        rw [MS.del_set ha]
        exact hN _ _ ⟨rfl, _, _, _, _, _, _, rfl⟩
      case hs =>
        obtain ⟨rfl, z12, z13, rfl⟩ := h
        obtain ⟨r, hr, rfl⟩ := map_get hdj
        have tk2 : ((rowsB ((baseB b w).take i)).take (j + 1)).flatMap (fun r => ((rngI w.1 w.2).filter (okT e l)).map fun t => r ++ [t]) = ((rowsB ((baseB b w).take i)).take j).flatMap (fun r => ((rngI w.1 w.2).filter (okT e l)).map fun t => r ++ [t]) ++ ((rngI w.1 w.2).filter (okT e l)).map fun t => r ++ [t] := by
          rw [List.take_add_one, hr, List.flatMap_append, Option.toList_some, List.flatMap_singleton]
        have hlen : (((rowsB ((baseB b w).take i)).take (j + 1)).flatMap (fun r => ((rngI w.1 w.2).filter (okT e l)).map fun t => r ++ [t])).length ≤ 625 := by
          refine Nat.le_trans ?_ r6
          conv => rhs; rw [← List.take_append_drop (j + 1) (rowsB ((baseB b w).take i)), List.flatMap_append, List.length_append]
          omega
        rw [tk2, List.length_append, List.length_map] at hlen
        have hrl : r.length ≤ 16 := by
          have h1 := (inB_iff.mp (rowsB_mem.mp (List.mem_of_getElem? hr))).1
          rw [List.length_take] at h1
          omega
        generalize ((rowsB ((baseB b w).take i)).take j).flatMap (fun r => ((rngI w.1 w.2).filter (okT e l)).map fun t => r ++ [t]) = fl at tk2 hlen ⊢
        simp! [pD]
        refine ⟨by omega, by omega, by omega, by omega, ?_⟩
        rw [rangeD_rng]
        refine forW_n (fun n ρ S2 => S2 = S'.set a (.lst ((fl ++ (((rngI w.1 w.2).take n).filter (okT e l)).map fun t => r ++ [t]).map tupI)) ∧ ∃ z13, ρ = [some (specD b), some (pD w), some (.bl s), some (.int b.count), some (.tup (b.overs.map tupI)), some (.tup (b.dates.map fun p => D.tup [p.1, p.2])), some (.tup (b.kinds.map tupI)), some (.lst ((rowsB ((baseB b w).take i)).map tupI)), some (.int (i : Int)), some e, some l, some (.ref a), some (tupI r), z13, none, none, none]) (fun _ _ _ _ => trivial) (fun n d ρ S2 hdn h M2 hM2 => ?hs) (fun ρ S2 h => ?hd) ⟨by simp, _, rfl⟩
        case hd =>
          obtain ⟨rfl, z13, rfl⟩ := h
          rw [List.length_map, List.take_length, ← tk2]
          exact hM _ _ ⟨rfl, _, _, rfl⟩
        case hs =>
          obtain ⟨rfl, z13, rfl⟩ := h
          obtain ⟨t, ht, rfl⟩ := map_get hdn
          have tk3 : ((rngI w.1 w.2).take (n + 1)).filter (okT e l) = ((rngI w.1 w.2).take n).filter (okT e l) ++ (if okT e l t = true then [t] else []) := by
            rw [List.take_add_one, ht, List.filter_append, Option.toList_some, List.filter_cons]
            rfl
          have hn5 : ((rngI w.1 w.2).take n).length ≤ 5 := by rw [List.length_take, rngI_len]; omega
          have hn6 := Nat.le_trans (List.length_filter_le (okT e l) ((rngI w.1 w.2).take n)) hn5
          have no : okT e l t = false → ∀ z13, M2 [some (specD b), some (pD w), some (.bl s), some (.int b.count), some (.tup (b.overs.map tupI)), some (.tup (b.dates.map fun p => D.tup [p.1, p.2])), some (.tup (b.kinds.map tupI)), some (.lst ((rowsB ((baseB b w).take i)).map tupI)), some (.int (i : Int)), some e, some l, some (.ref a), some (tupI r), z13, none, none, none] (S'.set a (.lst ((fl ++ (((rngI w.1 w.2).take n).filter (okT e l)).map fun t => r ++ [t]).map tupI))) := fun h z13 => hM2 _ _ ⟨by rw [tk3, if_neg (by rw [h]; exact Bool.false_ne_true), List.append_nil], _, rfl⟩
          have yes : okT e l t = true → ∀ z13, M2 [some (specD b), some (pD w), some (.bl s), some (.int b.count), some (.tup (b.overs.map tupI)), some (.tup (b.dates.map fun p => D.tup [p.1, p.2])), some (.tup (b.kinds.map tupI)), some (.lst ((rowsB ((baseB b w).take i)).map tupI)), some (.int (i : Int)), some e, some l, some (.ref a), some (tupI r), z13, none, none, none] (S'.set a (.lst ((fl ++ (((rngI w.1 w.2).take n).filter (okT e l)).map fun t => r ++ [t]).map tupI ++ [tupI (r ++ [t])]))) := fun h z13 => hM2 _ _ ⟨by rw [tk3, if_pos h]; simp, _, rfl⟩
          have hll : ((fl ++ (((rngI w.1 w.2).take n).filter (okT e l)).map fun t => r ++ [t]).map tupI).length ≤ 630 := by
            rw [List.length_map, List.length_append, List.length_map]
            omega
          generalize (fl ++ (((rngI w.1 w.2).take n).filter (okT e l)).map fun t => r ++ [t]).map tupI = acc at no yes hll ⊢
          have app : ∀ N2 : MS → Prop, N2 (S'.set a (.lst (acc ++ [tupI (r ++ [t])]))) → ∃ ds, (S'.set a (.lst acc)) a = some (.lst ds) ∧ ds.length < sizeLine ∧ N2 ((S'.set a (.lst acc)).set a (.lst (ds ++ [tupI (r ++ [t])]))) := fun N2 h => ⟨_, MS.set_same, lt_sz (by omega), by rw [MS.set_set]; exact h⟩
          have hrd : rd (S'.set a (.lst acc)) (.ref a) = .lst acc := rd_ref MS.set_same
          have sz : (r.map D.int).length + 1 ≤ sizeLine := le_sz (by rw [List.length_map]; omega)
          have tI : tupI (r ++ [t]) = D.tup (r.map D.int ++ [D.int t]) := by simp [tupI]
          rw [tI] at app yes
          rcases hp.1 with rfl | ⟨x, rfl, _⟩ <;> rcases hp.2.1 with rfl | ⟨y, rfl, _⟩ <;> simp! [tupI, hrd, wAppend]
          · exact ⟨le_sz (by decide), sz, app (M2 _) (yes rfl _)⟩
          · exact ite_any (fun h => ⟨le_sz (by decide), sz, app (M2 _) (yes (by simpa [okT] using h) _)⟩) (fun h => no (by simpa [okT] using h) _)
          · exact ite_any (fun h => ⟨le_sz (by decide), sz, app (M2 _) (yes (by simpa [okT] using h) _)⟩) (fun h => no (by simpa [okT] using h) _)
          · exact ite_any (fun h1 => ite_any (fun h2 => ⟨le_sz (by decide), sz, app (M2 _) (yes (by show (decide (x ≤ t) && decide (t ≤ y)) = true; rw [h1, h2]; rfl) _)⟩) (fun h2 => no (by show (decide (x ≤ t) && decide (t ≤ y)) = false; rw [Bool.eq_false_iff.mpr h2, Bool.and_false]) _)) (fun h1 => no (by show (decide (x ≤ t) && decide (t ≤ y)) = false; rw [Bool.eq_false_iff.mpr h1, Bool.false_and]) _))
theorem D__law_plans (A : Al K mg) : Def P w K mg base CX0 1 "_law_plans" ["parts", "window", "strict"] sp__law_plans := by
  obtain ⟨f, fd, Fu, hm, hb⟩ := fu__law_plans A
  exact ⟨f, fd, O__law_plans A Fu, hm, Fu.kp, hb⟩
end
theorem sc__law_low : FnScope ["top", "bottom", "one", "other"] ["top", "bottom"] (defScope s__law_low) := ⟨rfl, rfl, rfl, by decide +kernel, rfl, by decide +kernel, by decide +kernel⟩
theorem ar__law_low : ∀ ds S Q E, sp__law_low ds S Q E → ds.length = 2 := by
  rintro ds S Q E h
  simp only [sp__law_low] at h
  obtain ⟨_, h⟩ := h
  repeat (first | (obtain ⟨rfl, _⟩ := h; rfl) | (obtain ⟨_, h⟩ := h))
section
variable {P : Program} {w : World} {K : PySem.W.Frag} {mg : Str → Option Value} {base : Heap}
theorem O__law_low (A : Al K mg) {f : Addr} {fd : FuncData} (Fu : FunD K "_law_low" "_law_low" (defArgs s__law_low) (defBody s__law_low) (defScope s__law_low) [] [] f fd) : FnG P w K mg base CX0 1 f fd ["top", "bottom"] (spD K sp__law_low) := by
  refine fn_d Fu sc__law_low ar__law_low (fun cdv A0 outer s0 H0 E0' hr => ⟨_, _,
      (db_cons (ds_par 2 3 rfl sc__law_low.nd (by decide) (da_cons (de_cb call_abs roc_abs rfl A.b_abs (by decide +kernel) (da_cons (de_var 0) da_nil)) (da_cons (de_var 1) da_nil)))
      (db_cons (ds_while PassesOwn.never (dt_cmp op_gt ro_IB (de_var 3) de_int (nomark _))
        (db_one (ds_par 2 3 rfl sc__law_low.nd (by decide) (da_cons (de_var 3) (da_cons (de_op op_mod ro_II (de_ct call_int1 roc_int rfl A.b_int (by decide +kernel) (da_cons (de_var 2) da_nil)) (de_var 3)) da_nil)))))
      (db_one (ds_ret (de_tup (da_cons (de_op op_fdiv ro_II (de_var 0) (de_var 2)) (da_cons (de_op op_fdiv ro_II (de_var 1) (de_var 2)) da_nil))))))),
      ?_⟩)
  all_goals (
    rintro ds S Q Ed ⟨x, y, rfl, hy, q⟩
    simp! [wPar, ab_eq]
    refine ⟨fun n ρ S' => S' = S ∧ ∃ u v : Nat, n = v ∧ Nat.gcd u v = Int.gcd x y ∧ ρ = [some (.int x), some (.int y), some (.int (u : Int)), some (.int (v : Int))], ⟨_, rfl, x.natAbs, y.natAbs, rfl, rfl, by rw [show ((y.natAbs : Nat) : Int) = y by omega]⟩, fun n ρ S' h => ?_⟩
    obtain ⟨rfl, u, v, rfl, hg, rfl⟩ := h
    have hgp := gcd_small (x := x) hy.1
    simp! [wPar]
    refine ite_any (fun h => ?_) (fun h => ?_)
    · have h : 0 < n := by have := of_decide_eq_true h; omega
      refine ⟨by omega, n2c ⟨u % n, Nat.mod_lt _ h, n, by rw [← hg]; exact gcd_st u n, rfl, rfl⟩⟩
    · have h : n = 0 := by
        have : ¬ (0 : Int) < (n : Int) := fun z => h (decide_eq_true z)
        omega
      subst h
      rw [Nat.gcd_zero_right] at hg
      subst hg
      refine ⟨⟨by omega, by omega⟩, ⟨by omega, by omega⟩, le_sz (by decide), outK.same q⟩)
theorem D__law_low (A : Al K mg) : Def P w K mg base CX0 1 "_law_low" ["top", "bottom"] sp__law_low := by
  obtain ⟨f, fd, Fu, hm, hb⟩ := fu__law_low A
  exact ⟨f, fd, O__law_low A Fu, hm, Fu.kp, hb⟩
end
theorem sc_Planner_narrowed : FnScope ["self", "bounds", "layer", "time", "step", "found", "a", "b", "low", "high"] ["self", "bounds", "layer", "time"] (defScope s_Planner_narrowed) := ⟨rfl, rfl, rfl, by decide +kernel, rfl, by decide +kernel, by decide +kernel⟩
theorem ar_Planner_narrowed : ∀ ds S Q E, sp_Planner_narrowed ds S Q E → ds.length = 4 := by
  rintro ds S Q E h
  simp only [sp_Planner_narrowed] at h
  obtain ⟨_, h⟩ := h
  repeat (first | (obtain ⟨rfl, _⟩ := h; rfl) | (obtain ⟨_, h⟩ := h))
section
variable {P : Program} {w : World} {K : PySem.W.Frag} {mg : Str → Option Value} {base : Heap}
theorem O_Planner_narrowed (A : Al K mg) {f : Addr} {fd : FuncData} (Fu : FunD K "narrowed" "Planner.narrowed" (defArgs s_Planner_narrowed) (defBody s_Planner_narrowed) (defScope s_Planner_narrowed) [] [] f fd) : FnG P w K mg base CX0 1 f fd ["self", "bounds", "layer", "time"] (spD K sp_Planner_narrowed) := by
  refine fn_d Fu sc_Planner_narrowed ar_Planner_narrowed (fun cdv A0 outer s0 H0 E0' hr => ⟨_, _,
      (db_cons (ds_par 4 5 rfl sc_Planner_narrowed.nd (by decide) (da_cons (de_ct call_int1 roc_int rfl A.b_int (by decide +kernel) (da_cons (de_fld K A.cls_Planner A.na_Planner_strict (de_var 0)) da_nil)) (da_cons (de_ct (call_listK K) (roc_list true) rfl A.b_list (by decide +kernel) (da_cons (de_var 1) da_nil)) da_nil)))
      (db_cons (ds_asg (vs := []) (de_tup (da_cons (de_cb (call_max2 rfl) roc_max2 rfl A.b_max (by decide +kernel) (da_cons (de_var 3) (da_cons (de_ixK K (de_ixK K (de_var 1) (de_var 2)) de_int) da_nil))) (da_cons (de_cb (call_min2 rfl) roc_min2 rfl A.b_min (by decide +kernel) (da_cons (de_var 3) (da_cons (de_ixK K (de_ixK K (de_var 1) (de_var 2)) de_int) da_nil))) da_nil))) (dg_setL (de_var 5) (de_var 2)))
      (db_cons (ds_for (vs := [6, 7]) PassesOwn.never rfl (di_seqK K (de_fld K A.cls_Book A.na_Book_overs (de_fld K A.cls_Planner A.na_Planner_book (de_var 0)))) (dg_tupK K (n := 2) rfl (dgs_cons (dg_name (vs := [6, 7]) 6 (by decide) sc_Planner_narrowed.nd) (dgs_cons (dg_name (vs := [6, 7]) 7 (by decide) sc_Planner_narrowed.nd) dgs_nil)))
        (db_cons (ds_if (dt_cmp (op_eqK K hr.units) ro_eq (de_var 6) (de_var 2) (nomark _))
          (db_one (ds_asg (vs := []) (de_tup (da_cons (de_ixK K (de_ixK K (de_var 5) (de_var 7)) de_int) (da_cons (de_cb (call_min2 rfl) roc_min2 rfl A.b_min (by decide +kernel) (da_cons (de_ixK K (de_ixK K (de_var 5) (de_var 7)) de_int) (da_cons (de_op op_sub ro_I0 (de_var 3) (de_var 4)) da_nil))) da_nil))) (dg_setL (de_var 5) (de_var 7))))
          db_nil)
        (db_one (ds_if (dt_cmp (op_eqK K hr.units) ro_eq (de_var 7) (de_var 2) (nomark _))
          (db_one (ds_asg (vs := []) (de_tup (da_cons (de_cb (call_max2 rfl) roc_max2 rfl A.b_max (by decide +kernel) (da_cons (de_ixK K (de_ixK K (de_var 5) (de_var 6)) de_int) (da_cons (de_op (op_addK K) (ro_add false) (de_var 3) (de_var 4)) da_nil))) (da_cons (de_ixK K (de_ixK K (de_var 5) (de_var 6)) de_int) da_nil))) (dg_setL (de_var 5) (de_var 6))))
          db_nil))))
      (db_one (ds_ret (de_if (dt_val (de_cb (cr_allK K rfl) roc_all rfl A.b_all (by decide +kernel) (da_cons (de_lc false [("low", 8), ("high", 9)] rfl sc_Planner_narrowed.nd (di_seqK K (de_var 5)) (blkOk_by (by kernel_rfl)) (fun _ _ _ _ _ => (dg_tupK K (n := 2) rfl (dgs_cons (dg_name (vs := [8, 9]) 8 (by decide) sc_Planner_narrowed.nd) (dgs_cons (dg_name (vs := [8, 9]) 9 (by decide) sc_Planner_narrowed.nd) dgs_nil)))) (fun _ _ _ _ _ => dts_nil) (fun _ _ _ _ _ => (de_cmp op_le ro_IB (de_var 8) (de_var 9) (nomark _)))) da_nil))) (de_ct (call_tupleK K) roc_tuple rfl A.b_tuple (by decide +kernel) (da_cons (de_var 5) da_nil)) de_non)))))),
      ?_⟩)
  all_goals (
    rintro ds S Q Ed ⟨P, bs, l, t, rfl, ok, hl, hn, q⟩
    obtain ⟨⟨hb, hc4, ho⟩, hw⟩ := ok
    have hcn : (P.n : Int) = P.b.count := by unfold Pl.n; have := hb.1; omega
    obtain ⟨p0, hp0⟩ : ∃ p, bs[l]? = some p := ⟨_, List.getElem?_eq_getElem (by omega)⟩
    simp! [bdD, wPar, plX, D.obj.injEq, fs_strict, fs_book, bkV, f_overs]
    refine fun fa hfa => ?_
    simp! [z_ixtB hp0, pD, mx_eq, mn_eq]
    refine ⟨le_sz (by decide), _, _, _, _, rfl, rfl, MS.set_same, ixN_n (by rw [List.length_map]; omega), ?_⟩
    rw [MS.set_set, show (bs.map pD).set l (D.tup [.int (max t p0.1), .int (min t p0.2)]) = (narL (P.b.overs.take 0) P.st l t 0 bs).map pD from by rw [List.take_zero, narL_nil hp0, List.map_set]; rfl]
    refine forW_n (fun i ρ S' => S' = S.set fa (.lst ((narL (P.b.overs.take i) P.st l t 0 bs).map pD)) ∧ ∃ z6 z7, ρ = [some (plX P), some (bdD bs), some (.int (l : Int)), some (.int t), some (.int P.st), some (.ref fa), z6, z7, none, none]) (fun _ _ _ _ => trivial) (fun i d ρ S' hd h N hN => ?hs) (fun ρ S' h => ?hd) ⟨rfl, _, _, rfl⟩
    case hd =>
      obtain ⟨rfl, z6, z7, rfl⟩ := h
      rw [List.length_map, List.take_length]
      simp! []
      rw [z_items_ref MS.set_same]
      refine compAllM (fun p : Int × Int => decide (p.1 ≤ p.2)) (fun S2 sub => sub _ _ MS.set_same) (le_sz (by rw [narL_len]; have := hb.1; omega)) (fun p hp S2 sub N hN => ?_) ?_
      · simp! [pD]
        exact hN
      · refine ⟨_, rfl, ?_⟩
        rw [rd_ref MS.set_same]
        unfold narD at q
        refine ite_any (fun h => ?_) (fun h => ?_)
        · rw [if_pos (show okBd (nar P bs l t) = true from h)] at q; exact outK.mk (Sub.set hfa) q
        · rw [if_neg (show ¬ okBd (nar P bs l t) = true from h)] at q; exact outK.mk (Sub.set hfa) q
    case hs =>
      obtain ⟨rfl, z6, z7, rfl⟩ := h
      obtain ⟨r, hr, rfl⟩ := map_get hd
      obtain ⟨x, y, rfl, hxy, hx, hy⟩ := hb.2.1.1 r (List.mem_of_getElem? hr)
      have tk : P.b.overs.take (i + 1) = P.b.overs.take i ++ [[x, y]] := by rw [List.take_add_one, hr]; rfl
      obtain ⟨a, rfl⟩ : ∃ a : Nat, x = a := ⟨x.toNat, by omega⟩
      obtain ⟨b, rfl⟩ : ∃ b : Nat, y = b := ⟨y.toNat, by omega⟩
      have hnl : (narL (P.b.overs.take i) P.st l t 0 bs).length = P.n := by rw [narL_len, hl]
      obtain ⟨pa, hpa⟩ : ∃ p, (narL (P.b.overs.take i) P.st l t 0 bs)[a]? = some p := ⟨_, List.getElem?_eq_getElem (by omega)⟩
      obtain ⟨pb, hpb⟩ : ∃ p, (narL (P.b.overs.take i) P.st l t 0 bs)[b]? = some p := ⟨_, List.getElem?_eq_getElem (by omega)⟩
      simp! [tupI]
      refine ite_any (fun h1 => ?_) (fun h1 => ?_)
      · have h1 : a = l := by have := of_decide_eq_true h1; omega
        subst h1
        simp! [rd_ref MS.set_same, z_ixB hpb, pD, mn_eq]
        refine ⟨le_sz (by decide), _, _, _, _, rfl, rfl, MS.set_same, ixN_n (by rw [List.length_map]; omega), ?_⟩
        refine ite_any (fun h2 => by have := of_decide_eq_true h2; omega) (fun _ => ?_)
        rw [MS.set_set]
        refine hN _ _ ⟨?_, _, _, rfl⟩
        rw [tk, narL_sndU (by omega) hpb, List.map_set]
        rfl
      · refine ite_any (fun h2 => ?_) (fun h2 => ?_)
        · have h2 : b = l := by have := of_decide_eq_true h2; omega
          subst h2
          simp! [rd_ref MS.set_same, z_ixB hpa, pD, mx_eq]
          refine ⟨le_sz (by decide), _, _, _, _, rfl, rfl, MS.set_same, ixN_n (by rw [List.length_map]; omega), ?_⟩
          rw [MS.set_set]
          refine hN _ _ ⟨?_, _, _, rfl⟩
          rw [tk, narL_fstU (by omega) hpa, List.map_set]
          rfl
        · refine hN _ _ ⟨?_, _, _, rfl⟩
          have h1 : ¬ ((a : Int) = (l : Int)) := fun e => h1 (decide_eq_true e)
          have h2 : ¬ ((b : Int) = (l : Int)) := fun e => h2 (decide_eq_true e)
          rw [tk, narL_no h1 h2])
theorem D_Planner_narrowed (A : Al K mg) : DefM P w K mg base CX0 1 (He.ma K (He.ga K "Planner") "narrowed") ["self", "bounds", "layer", "time"] sp_Planner_narrowed := by
  obtain ⟨fd, Fu, hb⟩ := fu_Planner_narrowed A
  exact ⟨fd, O_Planner_narrowed A Fu, hb⟩
end
theorem sc_is_within : FnScope ["thing", "low", "high"] ["thing", "low", "high"] (defScope s_is_within) := ⟨rfl, rfl, rfl, by decide +kernel, rfl, by decide +kernel, by decide +kernel⟩
theorem ar_is_within : ∀ ds S Q E, sp_is_within ds S Q E → ds.length = 3 := by
  rintro ds S Q E h
  simp only [sp_is_within] at h
  obtain ⟨_, h⟩ := h
  repeat (first | (obtain ⟨rfl, _⟩ := h; rfl) | (obtain ⟨_, h⟩ := h))
section
variable {P : Program} {w : World} {K : PySem.W.Frag} {mg : Str → Option Value} {base : Heap}
theorem O_is_within (A : Al K mg) {f : Addr} {fd : FuncData} (Fu : FunD K "is_within" "is_within" (defArgs s_is_within) (defBody s_is_within) (defScope s_is_within) [] [] f fd) : FnG P w K mg base CX0 2 f fd ["thing", "low", "high"] (spD K sp_is_within) := by
  refine fn_d Fu sc_is_within ar_is_within (fun cdv A0 outer s0 H0 E0' hr => ⟨_, _,
      (db_one (ds_ret (de_and (de_callK (D_is_integer A) (hr.mono (by omega)) pass0 rfl (da_cons (de_var 0) da_nil)) (de_one (de_ch op_le op_le ro_IB ro_IB (de_var 1) (de_var 0) (de_var 2)))))),
      ?_⟩)
  all_goals (
    rintro ds S Q Ed ⟨x, lo, hi, rfl, pl, q⟩
    simp! [sp_is_integer, rd_pl pl, pl]
    cases x <;> first | exact outK.same q | skip
    rename_i i
    simp! [isInt]
    refine ite_bl (fun h => ?_) (fun h => ?_) <;> simp only [isWithin, h, Bool.true_and, Bool.false_and] at q <;> exact outK.same q)
theorem D_is_within (A : Al K mg) : Def P w K mg base CX0 2 "is_within" ["thing", "low", "high"] sp_is_within := by
  obtain ⟨f, fd, Fu, hm, hb⟩ := fu_is_within A
  exact ⟨f, fd, O_is_within A Fu, hm, Fu.kp, hb⟩
end
theorem sc_is_number : FnScope ["thing"] ["thing"] (defScope s_is_number) := ⟨rfl, rfl, rfl, by decide +kernel, rfl, by decide +kernel, by decide +kernel⟩
theorem ar_is_number : ∀ ds S Q E, sp_is_number ds S Q E → ds.length = 1 := by
  rintro ds S Q E h
  simp only [sp_is_number] at h
  obtain ⟨_, h⟩ := h
  repeat (first | (obtain ⟨rfl, _⟩ := h; rfl) | (obtain ⟨_, h⟩ := h))
section
variable {P : Program} {w : World} {K : PySem.W.Frag} {mg : Str → Option Value} {base : Heap}
theorem O_is_number (A : Al K mg) {f : Addr} {fd : FuncData} (Fu : FunD K "is_number" "is_number" (defArgs s_is_number) (defBody s_is_number) (defScope s_is_number) [] [] f fd) : FnG P w K mg base CX0 2 f fd ["thing"] (spD K sp_is_number) := by
  refine fn_d Fu sc_is_number ar_is_number (fun cdv A0 outer s0 H0 E0' hr => ⟨_, _,
      (db_one (ds_ret (de_and (de_callK (D_is_integer A) (hr.mono (by omega)) pass0 rfl (da_cons (de_var 0) da_nil)) (de_one (de_cmp op_ge ro_IB (de_var 0) de_int (nomark _)))))),
      ?_⟩)
  all_goals (
    rintro ds S Q Ed ⟨n, rfl, q⟩
    simp! [sp_is_integer, isInt]
    exact outK.same q)
theorem D_is_number (A : Al K mg) : Def P w K mg base CX0 2 "is_number" ["thing"] sp_is_number := by
  obtain ⟨f, fd, Fu, hm, hb⟩ := fu_is_number A
  exact ⟨f, fd, O_is_number A Fu, hm, Fu.kp, hb⟩
end
theorem sc_is_bound : FnScope ["thing"] ["thing"] (defScope s_is_bound) := ⟨rfl, rfl, rfl, by decide +kernel, rfl, by decide +kernel, by decide +kernel⟩
theorem ar_is_bound : ∀ ds S Q E, sp_is_bound ds S Q E → ds.length = 1 := by
  rintro ds S Q E h
  simp only [sp_is_bound] at h
  obtain ⟨_, h⟩ := h
  repeat (first | (obtain ⟨rfl, _⟩ := h; rfl) | (obtain ⟨_, h⟩ := h))
section
variable {P : Program} {w : World} {K : PySem.W.Frag} {mg : Str → Option Value} {base : Heap}
theorem O_is_bound (A : Al K mg) {f : Addr} {fd : FuncData} (Fu : FunD K "is_bound" "is_bound" (defArgs s_is_bound) (defBody s_is_bound) (defScope s_is_bound) [] [] f fd) : FnG P w K mg base CX0 2 f fd ["thing"] (spD K sp_is_bound) := by
  refine fn_d Fu sc_is_bound ar_is_bound (fun cdv A0 outer s0 H0 E0' hr => ⟨_, _,
      (db_one (ds_ret (de_or (de_cmp op_isN ro_isN (de_var 0) de_non (nomark _)) (de_one (de_and (de_callK (D_is_integer A) (hr.mono (by omega)) pass0 rfl (da_cons (de_var 0) da_nil)) (de_one (de_ch op_le op_le ro_IB ro_IB (de_un un_neg ro_neg (de_gint rfl A.c_FARTHEST)) (de_var 0) (de_gint rfl A.c_FARTHEST)))))))),
      ?_⟩)
  all_goals (
    rintro ds S Q Ed ⟨d, rfl, hd, q⟩
    rcases hd with rfl | ⟨i, rfl, h1, h2⟩
    · simp! []
      exact outK.same q
    · simp! [sp_is_integer, isInt, decide_eq_true h1, decide_eq_true h2]
      exact outK.same q)
theorem D_is_bound (A : Al K mg) : Def P w K mg base CX0 2 "is_bound" ["thing"] sp_is_bound := by
  obtain ⟨f, fd, Fu, hm, hb⟩ := fu_is_bound A
  exact ⟨f, fd, O_is_bound A Fu, hm, Fu.kp, hb⟩
end
theorem sc_reduced : FnScope ["top", "bottom", "by"] ["top", "bottom"] (defScope s_reduced) := ⟨rfl, rfl, rfl, by decide +kernel, rfl, by decide +kernel, by decide +kernel⟩
theorem ar_reduced : ∀ ds S Q E, sp_reduced ds S Q E → ds.length = 2 := by
  rintro ds S Q E h
  simp only [sp_reduced] at h
  obtain ⟨_, h⟩ := h
  repeat (first | (obtain ⟨rfl, _⟩ := h; rfl) | (obtain ⟨_, h⟩ := h))
section
variable {P : Program} {w : World} {K : PySem.W.Frag} {mg : Str → Option Value} {base : Heap}
theorem O_reduced (A : Al K mg) {f : Addr} {fd : FuncData} (Fu : FunD K "reduced" "reduced" (defArgs s_reduced) (defBody s_reduced) (defScope s_reduced) [] [] f fd) : FnG P w K mg base CX0 2 f fd ["top", "bottom"] (spD K sp_reduced) := by
  refine fn_d Fu sc_reduced ar_reduced (fun cdv A0 outer s0 H0 E0' hr => ⟨_, _,
      (db_cons (ds_if (dt_cmp op_lt ro_IB (de_var 1) de_int (nomark _))
        (db_one (ds_par 0 1 rfl sc_reduced.nd (by decide) (da_cons (de_un un_neg ro_neg (de_var 0)) (da_cons (de_un un_neg ro_neg (de_var 1)) da_nil))))
        db_nil)
      (db_cons (ds_set 2 sc_reduced.nd (de_callK (D_common A) (hr.mono (by omega)) pass0 rfl (da_cons (de_var 0) (da_cons (de_var 1) da_nil))))
      (db_one (ds_ret (de_tup (da_cons (de_op op_fdiv ro_II (de_var 0) (de_var 2)) (da_cons (de_op op_fdiv ro_II (de_var 1) (de_var 2)) da_nil))))))),
      ?_⟩)
  all_goals (
    rintro ds S Q Ed ⟨x, y, rfl, hy, q⟩
    have hgp := gcd_small (x := x) hy.1
    simp! [wPar, sp_common]
    refine ite_any (fun h => by have := of_decide_eq_true h; omega) (fun _ => ?_)
    exact ⟨⟨by omega, by omega⟩, ⟨by omega, by omega⟩, le_sz (by decide), outK.same q⟩)
theorem D_reduced (A : Al K mg) : Def P w K mg base CX0 2 "reduced" ["top", "bottom"] sp_reduced := by
  obtain ⟨f, fd, Fu, hm, hb⟩ := fu_reduced A
  exact ⟨f, fd, O_reduced A Fu, hm, Fu.kp, hb⟩
end
theorem sc__law_any : FnScope ["hand", "things"] ["hand", "things"] (defScope s__law_any) := ⟨rfl, rfl, rfl, by decide +kernel, rfl, by decide +kernel, by decide +kernel⟩
theorem ar__law_any : ∀ ds S Q E, sp__law_any ds S Q E → ds.length = 2 := by
  rintro ds S Q E h
  simp only [sp__law_any] at h
  obtain ⟨_, h⟩ := h
  repeat (first | (obtain ⟨rfl, _⟩ := h; rfl) | (obtain ⟨_, h⟩ := h))
section
variable {P : Program} {w : World} {K : PySem.W.Frag} {mg : Str → Option Value} {base : Heap}
theorem O__law_any (A : Al K mg) {f : Addr} {fd : FuncData} (Fu : FunD K "_law_any" "_law_any" (defArgs s__law_any) (defBody s__law_any) (defScope s__law_any) [] [] f fd) : FnG P w K mg base CX0 2 f fd ["hand", "things"] (spD K sp__law_any) := by
  refine fn_d Fu sc__law_any ar__law_any (fun cdv A0 outer s0 H0 E0' hr => ⟨_, _,
      (db_one (ds_ret (de_ixK K (de_var 1) (de_callK (V__law_draw A) (hr.mono (by omega)) pass0 rfl (da_cons (de_var 0) (da_cons (de_cb (call_lenK K) roc_len rfl A.b_len (by decide +kernel) (da_cons (de_var 1) da_nil)) da_nil)))))),
      ?_⟩)
  all_goals (
    rintro ds S Q Ed ⟨t, xs, rfl, hs, hl, q⟩
    simp! [drawSp]
    refine ⟨hs, by omega, by omega, fun i h0 h1 => ?_⟩
    simp! [z_ix_lt h0 h1]
    exact outK.same (q _ (getD_mem (by omega))))
theorem D__law_any (A : Al K mg) : Def P w K mg base CX0 2 "_law_any" ["hand", "things"] sp__law_any := by
  obtain ⟨f, fd, Fu, hm, hb⟩ := fu__law_any A
  exact ⟨f, fd, O__law_any A Fu, hm, Fu.kp, hb⟩
end
theorem sc__law_mixed : FnScope ["hand", "size", "found", "left"] ["hand", "size"] (defScope s__law_mixed) := ⟨rfl, rfl, rfl, by decide +kernel, rfl, by decide +kernel, by decide +kernel⟩
theorem ar__law_mixed : ∀ ds S Q E, sp__law_mixed ds S Q E → ds.length = 2 := by
  rintro ds S Q E h
  simp only [sp__law_mixed] at h
  obtain ⟨_, h⟩ := h
  repeat (first | (obtain ⟨rfl, _⟩ := h; rfl) | (obtain ⟨_, h⟩ := h))
section
variable {P : Program} {w : World} {K : PySem.W.Frag} {mg : Str → Option Value} {base : Heap}
theorem O__law_mixed (A : Al K mg) {f : Addr} {fd : FuncData} (Fu : FunD K "_law_mixed" "_law_mixed" (defArgs s__law_mixed) (defBody s__law_mixed) (defScope s__law_mixed) [] [] f fd) : FnG P w K mg base CX0 2 f fd ["hand", "size"] (spD K sp__law_mixed) := by
  refine fn_d Fu sc__law_mixed ar__law_mixed (fun cdv A0 outer s0 H0 E0' hr => ⟨_, _,
      (db_cons (ds_par 2 3 rfl sc__law_mixed.nd (by decide) (da_cons (de_lst true da_nil) (da_cons (de_listRg1 true rfl rfl A.b_list rfl A.b_range (de_var 1)) da_nil)))
      (db_cons (ds_while PassesOwn.never (dt_cmp op_gt ro_IB (de_cb (call_lenK K) roc_len rfl A.b_len (by decide +kernel) (da_cons (de_var 3) da_nil)) de_int (nomark _))
        (db_one (ds_expr (de_bmK K PySem.F.plainAttrs_list PySem.F.slot_list_append PySem.F.type_list_append mt_append rm_append (de_var 2) (da_cons (de_bmK K PySem.F.plainAttrs_list PySem.F.slot_list_pop PySem.F.type_list_pop mt_popAt rm_popAt (de_var 3) (da_cons (de_callK (V__law_draw A) (hr.mono (by omega)) pass0 rfl (da_cons (de_var 0) (da_cons (de_cb (call_lenK K) roc_len rfl A.b_len (by decide +kernel) (da_cons (de_var 3) da_nil)) da_nil))) da_nil)) da_nil)))))
      (db_one (ds_ret (de_varF 2))))),
      ?_⟩)
  all_goals (
    rintro ds S Q Ed ⟨t, n, rfl, hs, hn, q⟩
    simp! [wPar]
    refine ⟨Nat.zero_le _, fun b hb => ⟨by unfold RgOk; omega, fun a ha => ?_⟩⟩
    have ab : a ≠ b := fun e => by
      rw [e, MS.set_same] at ha
      cases ha
    have ba : b ≠ a := Ne.symm ab
    rw [MS.set_ne ab] at ha
    have comm : ∀ x y, (S.set b x).set a y = (S.set a y).set b x := fun x y => MS.set_comm ba
    have hset : ∀ x y z, ((S.set a x).set b y).set a z = (S.set a z).set b y := fun x y z => by rw [MS.set_comm ba, MS.set_set, MS.set_comm ab]
    have hset2 : ∀ x y z, ((S.set a x).set b y).set b z = (S.set a x).set b z := fun x y z => MS.set_set
    have ra : ∀ x y, rd ((S.set a (.lst x)).set b y) (.ref a) = .lst x := fun x y => by rw [rd_set_ne ab, z_rd_set]
    have rb : ∀ x y, rd ((S.set a x).set b (.lst y)) (.ref b) = .lst y := fun x y => z_rd_set
    have ga : ∀ x y, ((S.set a x).set b y) a = some x := fun x y => by rw [MS.set_ne ab, MS.set_same]
    have gt : ∀ x y, ((S.set a x).set b y) t = some (.opq (opq2 JH)) := fun x y => by
      rw [MS.set_ne (fun e => by rw [e, hb] at hs; cases hs), MS.set_ne (fun e => by rw [e, ha] at hs; cases hs)]
      exact hs
    rw [comm]
    refine ⟨fun k ρ S' => ∃ ls fs : List Int, ls.length = k ∧ permN n (fs ++ ls) ∧ ρ = [some (.ref t), some (.int n), some (.ref b), some (.ref a)] ∧ S' = (S.set a (.lst (ls.map D.int))).set b (.lst (fs.map D.int)), ⟨_, (List.range n.toNat).map fun (i : Nat) => (i : Int), [], rfl, List.Perm.refl _, rfl, ?_⟩, ?_⟩
    · rw [Int.sub_zero, show rangeD 0 n.toNat = ((List.range n.toNat).map fun (i : Nat) => (i : Int)).map D.int by simp [rangeD]]
      rfl
    · rintro k ρ S' ⟨ls, fs, hk, hp, rfl, rfl⟩
      simp! [ra, List.length_map]
      refine ite_bl (fun h => ?_) (fun h => ?_)
      · have h0 : 0 < ls.length := by have := of_decide_eq_true h; omega
        have hlen := permN_length hn.1 hp
        rw [List.length_append] at hlen
        simp! [ra, rb, drawSp]
        refine ⟨gt _ _, by omega, by omega, fun i h1 h2 => ?_⟩
        have hi : i.toNat < ls.length := by omega
        refine ⟨a, _, i, i.toNat, .int ls[i.toNat], rfl, rfl, ga _ _, by omega, by rw [List.getElem?_map, List.getElem?_eq_getElem hi]; rfl, le_sz (by rw [List.length_map]; omega), ?_⟩
        rw [hset, DL.map_eraseIdx]
        refine ⟨b, _, _, rfl, rfl, MS.set_same, lt_sz (by rw [List.length_map]; omega), ls.length - 1, by omega, ls.eraseIdx i.toNat, by rw [List.length_eraseIdx_of_lt hi], fs ++ [ls[i.toNat]], ?_, ?_⟩
        · refine List.Perm.trans ?_ hp
          rw [List.append_assoc]
          refine List.Perm.append_left fs ?_
          exact perm_erase hi
        · rw [hset2, List.map_append]
          rfl
      · have h0 : ls = [] := by
          have := of_decide_eq_false h
          exact List.length_eq_zero_iff.mp (by omega)
        subst h0
        simp! [rb]
        rw [List.append_nil] at hp
        refine ⟨_, MS.set_same, ?_⟩
        rw [MS.del_set ((MS.set_ne ba).trans hb)]
        exact outK.mk (Sub.set ha) (q fs hp))
theorem D__law_mixed (A : Al K mg) : Def P w K mg base CX0 2 "_law_mixed" ["hand", "size"] sp__law_mixed := by
  obtain ⟨f, fd, Fu, hm, hb⟩ := fu__law_mixed A
  exact ⟨f, fd, O__law_mixed A Fu, hm, Fu.kp, hb⟩
end
theorem sc_Planner___init__ : FnScope ["self", "book", "window", "strict", "early", "late", "low"] ["self", "book", "window", "strict"] (defScope s_Planner___init__) := ⟨rfl, rfl, rfl, by decide +kernel, rfl, by decide +kernel, by decide +kernel⟩
theorem ar_Planner___init__ : ∀ ds S Q E, sp_Planner___init__ ds S Q E → ds.length = 4 := by
  rintro ds S Q E h
  simp only [sp_Planner___init__] at h
  obtain ⟨_, h⟩ := h
  repeat (first | (obtain ⟨rfl, _⟩ := h; rfl) | (obtain ⟨_, h⟩ := h))
section
variable {P : Program} {w : World} {K : PySem.W.Frag} {mg : Str → Option Value} {base : Heap}
theorem O_Planner___init__ (A : Al K mg) {f : Addr} {fd : FuncData} (Fu : FunD K "__init__" "Planner.__init__" (defArgs s_Planner___init__) (defBody s_Planner___init__) (defScope s_Planner___init__) [] [] f fd) : FnG P w K mg base CX0 1 f fd ["self", "book", "window", "strict"] (spD K sp_Planner___init__) := by
  refine fn_d Fu sc_Planner___init__ ar_Planner___init__ (fun cdv A0 outer s0 H0 E0' hr => ⟨_, _,
      (db_cons (ds_asg (vs := []) (de_tup (da_cons (de_var 1) (da_cons (de_var 3) da_nil))) (dg_tupK K (n := 2) rfl (dgs_cons (dg_fld K (vs := []) A.cls_Planner A.na_Planner_book (de_var 0)) (dgs_cons (dg_fld K (vs := []) A.cls_Planner A.na_Planner_strict (de_var 0)) dgs_nil))))
      (db_cons (ds_asg (vs := []) (de_lst true da_nil) (dg_fld K (vs := []) A.cls_Planner A.na_Planner_bounds (de_var 0)))
      (db_cons (ds_for (vs := [4, 5]) PassesOwn.never rfl (di_seqK K (de_fld K A.cls_Book A.na_Book_dates (de_var 1))) (dg_tupK K (n := 2) rfl (dgs_cons (dg_name (vs := [4, 5]) 4 (by decide) sc_Planner___init__.nd) (dgs_cons (dg_name (vs := [4, 5]) 5 (by decide) sc_Planner___init__.nd) dgs_nil)))
        (db_cons (ds_set 6 sc_Planner___init__.nd (de_if (dt_cmp op_isN ro_isN (de_var 4) de_non (nomark _)) (de_ixK K (de_var 2) de_int) (de_cb (call_max2 rfl) roc_max2 rfl A.b_max (by decide +kernel) (da_cons (de_ixK K (de_var 2) de_int) (da_cons (de_var 4) da_nil)))))
        (db_one (ds_expr (de_bmK K PySem.F.plainAttrs_list PySem.F.slot_list_append PySem.F.type_list_append mt_append rm_append (de_fld K A.cls_Planner A.na_Planner_bounds (de_var 0)) (da_cons (de_tup (da_cons (de_var 6) (da_cons (de_if (dt_cmp op_isN ro_isN (de_var 5) de_non (nomark _)) (de_ixK K (de_var 2) de_int) (de_cb (call_min2 rfl) roc_min2 rfl A.b_min (by decide +kernel) (da_cons (de_ixK K (de_var 2) de_int) (da_cons (de_var 5) da_nil)))) da_nil))) da_nil))))))
      (db_one (ds_asg (vs := []) de_dicTN (dg_fld K (vs := []) A.cls_Planner A.na_Planner_known (de_var 0))))))),
      ?_⟩)
  all_goals (
    rintro ds S Q Ed ⟨a, b, lk, w, ws, rfl, ha, ⟨hb, hc4, ho⟩, q⟩
    have p1 : ∀ v : D, putD "book" v [] [] = ((["book"] : List Str), [v]) := fun _ => rfl
    have p2 : ∀ u v : D, putD "strict" v ["book"] [u] = ((["book", "strict"] : List Str), [u, v]) := fun _ _ => rfl
    have p3 : ∀ u1 u2 v : D, putD "bounds" v ["book", "strict"] [u1, u2] = ((["book", "strict", "bounds"] : List Str), [u1, u2, v]) := fun _ _ _ => rfl
    have p4 : ∀ u1 u2 u3 v : D, putD "known" v ["book", "strict", "bounds"] [u1, u2, u3] = (plN, [u1, u2, u3, v]) := fun _ _ _ _ => rfl
    simp! [pD, bkV, wgFld]
    refine ⟨le_sz (by decide), _, _, ha, by simp, _, _, by rw [p1]; exact MS.set_same, by simp, le_sz (by decide), fun la hla => ?_⟩
    have hla' := hla
    refine ⟨_, _, by rw [p1, p2]; exact (MS.set_ne (fun e => by rw [← e, MS.set_same] at hla; cases hla)).trans MS.set_same, by simp, ?_⟩
    have na : a ≠ la := fun e => by rw [← e, MS.set_same] at hla; cases hla
    rw [p1, p2, p3]
    simp! [D.obj.injEq, f_dates]
    refine forW_n (fun i ρ S' => S' = (S.set a (.ins "Planner" ["book", "strict", "bounds"] [bkV b lk, .bl ws, .ref la])).set la (.lst ((baseB b w).take i |>.map pD)) ∧ ∃ z4 z5 z6, ρ = [some (.ref a), some (bkV b lk), some (pD w), some (.bl ws), z4, z5, z6]) (fun _ _ _ _ => trivial) (fun i d ρ S' hd h N hN => ?hs) (fun ρ S' h => ?hd) ⟨?_, _, _, _, rfl⟩
    case hd =>
      obtain ⟨rfl, z4, z5, z6, rfl⟩ := h
      rw [List.length_map, show b.dates.length = (baseB b w).length from (List.length_map _).symm, List.take_length]
      simp! [wgFld, wDicTN]
      intro da hda
      have ad : a ≠ da := fun e => by rw [← e, MS.set_ne na, MS.set_same] at hda; cases hda
      have ld : la ≠ da := fun e => by rw [← e, MS.set_same] at hda; cases hda
      refine ⟨_, _, (MS.set_ne ad).trans ((MS.set_ne na).trans MS.set_same), by simp, outK.same ?_⟩
      have q1 := q la da (by rw [MS.set_ne na.symm, MS.set_ne na.symm] at hla'; exact hla') (by rw [MS.set_ne ld.symm, MS.set_ne ad.symm] at hda; exact hda) ld
      rw [p4]
      have e1 : ∀ (m m' : MO), (((S.set a m).set la (.lst ((baseB b w).map pD))).set da (.dicT [] [])).set a m' = ((S.set a m').set la (.lst ((baseB b w).map pD))).set da (.dicT [] []) := fun m m' => by
        rw [MS.set_comm ad.symm, MS.set_comm na.symm, MS.set_set]
      rw [e1]
      exact q1
    case hs =>
      obtain ⟨rfl, z4, z5, z6, rfl⟩ := h
      obtain ⟨⟨e, l⟩, hr, rfl⟩ := map_get hd
      have hp := hb.2.2.1.2 _ (List.mem_of_getElem? hr)
      have hbg : (baseB b w)[i]? = some (lowB e w.1, highB l w.2) := by unfold baseB; rw [List.getElem?_map, hr]; rfl
      have tk : (baseB b w).take (i + 1) = (baseB b w).take i ++ [(lowB e w.1, highB l w.2)] := by rw [List.take_add_one, hbg]; rfl
      have fin : ∀ z4 z5 z6, N [some (.ref a), some (bkV b lk), some (pD w), some (.bl ws), z4, z5, z6] ((S.set a (.ins "Planner" ["book", "strict", "bounds"] [bkV b lk, .bl ws, .ref la])).set la (.lst (((baseB b w).take i).map pD ++ [pD (lowB e w.1, highB l w.2)]))) := fun z4 z5 z6 => hN _ _ ⟨by rw [tk, List.map_append]; rfl, z4, z5, z6, rfl⟩
      have hlen : (((baseB b w).take i).map pD).length < 1000000 := by
        have h1 := (List.getElem?_eq_some_iff.mp hr).1
        have h2 := hb.2.2.1.1
        rw [List.length_map, List.length_take]
        omega
      have hsa : ((S.set a (.ins "Planner" ["book", "strict", "bounds"] [bkV b lk, .bl ws, .ref la])).set la (.lst (((baseB b w).take i).map pD))) a = some (.ins "Planner" ["book", "strict", "bounds"] [bkV b lk, .bl ws, .ref la]) := (MS.set_ne na).trans MS.set_same
      have hsl : ((S.set a (.ins "Planner" ["book", "strict", "bounds"] [bkV b lk, .bl ws, .ref la])).set la (.lst (((baseB b w).take i).map pD))) la = some (.lst (((baseB b w).take i).map pD)) := MS.set_same
      have hst : ∀ m, (((S.set a (.ins "Planner" ["book", "strict", "bounds"] [bkV b lk, .bl ws, .ref la])).set la (.lst (((baseB b w).take i).map pD)))).set la m = (S.set a (.ins "Planner" ["book", "strict", "bounds"] [bkV b lk, .bl ws, .ref la])).set la m := fun m => MS.set_set
      have fb : ∀ x1 x2 x3 : D, fldD "bounds" ["book", "strict", "bounds"] [x1, x2, x3] = some x3 := fun _ _ _ => rfl
      generalize ((S.set a (.ins "Planner" ["book", "strict", "bounds"] [bkV b lk, .bl ws, .ref la])).set la (.lst (((baseB b w).take i).map pD))) = S1 at hsa hsl hst ⊢
      rcases hp.1 with rfl | ⟨x, rfl, _⟩ <;> rcases hp.2.1 with rfl | ⟨y, rfl, _⟩ <;> simp! [pD, rd_ins hsa, fb, D.obj.injEq, rd_ref hsl, mx_eq, mn_eq, wAppend] <;> exact ⟨le_sz (by decide), _, hsl, lt_sz hlen, by rw [hst]; exact fin _ _ _⟩
    rw [List.take_zero]
    rw [MS.set_comm na.symm, MS.set_set, MS.set_set]
    rfl)
theorem D_Planner___init__ (A : Al K mg) : DefM P w K mg base CX0 1 (He.ma K (He.ga K "Planner") "__init__") ["self", "book", "window", "strict"] sp_Planner___init__ := by
  obtain ⟨fd, Fu, hb⟩ := fu_Planner___init__ A
  exact ⟨fd, O_Planner___init__ A Fu, hb⟩
end
theorem sc_is_lot : FnScope ["thing", "many", "one", "other"] ["thing", "many"] (defScope s_is_lot) := ⟨rfl, rfl, rfl, by decide +kernel, rfl, by decide +kernel, by decide +kernel⟩
theorem ar_is_lot : ∀ ds S Q E, sp_is_lot ds S Q E → ds.length = 2 := by
  rintro ds S Q E h
  simp only [sp_is_lot] at h
  obtain ⟨_, h⟩ := h
  repeat (first | (obtain ⟨rfl, _⟩ := h; rfl) | (obtain ⟨_, h⟩ := h))
section
variable {P : Program} {w : World} {K : PySem.W.Frag} {mg : Str → Option Value} {base : Heap}
theorem O_is_lot (A : Al K mg) {f : Addr} {fd : FuncData} (Fu : FunD K "is_lot" "is_lot" (defArgs s_is_lot) (defBody s_is_lot) (defScope s_is_lot) [] [] f fd) : FnG P w K mg base CX0 3 f fd ["thing", "many"] (spD K sp_is_lot) := by
  refine fn_d Fu sc_is_lot ar_is_lot (fun cdv A0 outer s0 H0 E0' hr => ⟨_, _,
      (db_cons (ds_if (dt_w (dw_or (dt_not (dt_val (de_isiK K .tuple rfl A.b_isinstance (de_var 0) A.b_tuple))) (dw_or1 (dt_not (dt_val (de_cb (cr_allK K rfl) roc_all rfl A.b_all (by decide +kernel) (da_cons (de_lc false [("one", 2)] rfl sc_is_lot.nd (di_seqK K (de_var 0)) (blkOk_by (by kernel_rfl)) (fun _ _ _ _ _ => (dg_name (vs := [2]) 2 (by decide) sc_is_lot.nd)) (fun _ _ _ _ _ => dts_nil) (fun _ _ _ _ _ => (de_callK (D_is_within A) (hr.mono (by omega)) pass0 rfl (da_cons (de_var 2) (da_cons de_int (da_cons (de_op op_sub ro_I0 (de_var 1) de_int) da_nil)))))) da_nil)))))))
        (db_one (ds_ret de_bl))
        db_nil)
      (db_one (ds_ret (de_cb (cr_allK K rfl) roc_all rfl A.b_all (by decide +kernel) (da_cons (de_lc false [("one", 2), ("other", 3)] rfl sc_is_lot.nd (di_zipK K rfl A.b_zip (da_cons (de_var 0) (da_cons (de_slK K false (de_var 0) (do_some de_int) do_none) da_nil))) (blkOk_by (by kernel_rfl)) (fun _ _ _ _ _ => (dg_tupK K (n := 2) rfl (dgs_cons (dg_name (vs := [2, 3]) 2 (by decide) sc_is_lot.nd) (dgs_cons (dg_name (vs := [2, 3]) 3 (by decide) sc_is_lot.nd) dgs_nil)))) (fun _ _ _ _ _ => dts_nil) (fun _ _ _ _ _ => (de_cmp op_lt ro_IB (de_var 2) (de_var 3) (nomark _)))) da_nil))))),
      ?_⟩)
  all_goals (
    rintro ds S Q Ed ⟨r, many, rfl, hz, ⟨hp, hm⟩, q⟩
    simp! []
    refine compAllT noG_any (le_sz (by rw [List.length_map]; omega)) (fun d hd S' sub N hN => ?_) ?_
    · obtain ⟨i, hi, rfl⟩ := List.mem_map.mp hd
      have := hm i hi
      simp! [sp_is_within, isWithin, decide_eq_true this.1, decide_eq_true (show i ≤ many - 1 by omega)]
      exact hN
    · simp! [cutD_from (show (0 : Int) ≤ 1 by decide)]
      refine compAllT noG_any (le_sz (by rw [zipD_length, List.length_map]; omega)) (fun d hd S' sub N hN => ?_) (outK.same q)
      obtain ⟨i, h1, h2, rfl⟩ := zipD_mem hd
      rw [List.length_map] at h1
      rw [List.length_drop, List.length_map] at h2
      have h3 : i + 1 < r.length := by have : (1 : Int).toNat = 1 := rfl; omega
      have e1 : (r.map D.int).getD i .non = .int r[i] := by
        rw [List.getD_eq_getElem?_getD, List.getElem?_map, List.getElem?_eq_getElem h1]; rfl
      have e2 : ((r.map D.int).drop (Int.toNat 1)).getD i .non = .int r[i + 1] := by
        rw [List.getD_eq_getElem?_getD, List.getElem?_drop, show Int.toNat 1 + i = i + 1 from by show 1 + i = i + 1; omega, List.getElem?_map, List.getElem?_eq_getElem h3]; rfl
      rw [e1, e2]
      have := List.pairwise_iff_getElem.mp hp i (i + 1) h1 h3 (by omega)
      simp! [decide_eq_true this]
      exact hN)
theorem D_is_lot (A : Al K mg) : Def P w K mg base CX0 3 "is_lot" ["thing", "many"] sp_is_lot := by
  obtain ⟨f, fd, Fu, hm, hb⟩ := fu_is_lot A
  exact ⟨f, fd, O_is_lot A Fu, hm, Fu.kp, hb⟩
end
theorem sc_is_pair : FnScope ["count", "thing", "one"] ["count", "thing"] (defScope s_is_pair) := ⟨rfl, rfl, rfl, by decide +kernel, rfl, by decide +kernel, by decide +kernel⟩
theorem ar_is_pair : ∀ ds S Q E, sp_is_pair ds S Q E → ds.length = 2 := by
  rintro ds S Q E h
  simp only [sp_is_pair] at h
  obtain ⟨_, h⟩ := h
  repeat (first | (obtain ⟨rfl, _⟩ := h; rfl) | (obtain ⟨_, h⟩ := h))
section
variable {P : Program} {w : World} {K : PySem.W.Frag} {mg : Str → Option Value} {base : Heap}
theorem O_is_pair (A : Al K mg) {f : Addr} {fd : FuncData} (Fu : FunD K "is_pair" "is_pair" (defArgs s_is_pair) (defBody s_is_pair) (defScope s_is_pair) [] [] f fd) : FnG P w K mg base CX0 3 f fd ["count", "thing"] (spD K sp_is_pair) := by
  refine fn_d Fu sc_is_pair ar_is_pair (fun cdv A0 outer s0 H0 E0' hr => ⟨_, _,
      (db_cons (ds_if (dt_w (dw_or (dt_not (dt_val (de_callK (D_is_tuple A) (hr.mono (by omega)) pass0 rfl (da_cons (de_var 1) (da_cons de_int (da_cons de_int da_nil)))))) (dw_or1 (dt_not (dt_val (de_cb (cr_allK K rfl) roc_all rfl A.b_all (by decide +kernel) (da_cons (de_lc false [("one", 2)] rfl sc_is_pair.nd (di_seqK K (de_var 1)) (blkOk_by (by kernel_rfl)) (fun _ _ _ _ _ => (dg_name (vs := [2]) 2 (by decide) sc_is_pair.nd)) (fun _ _ _ _ _ => dts_nil) (fun _ _ _ _ _ => (de_callK (D_is_within A) (hr.mono (by omega)) pass0 rfl (da_cons (de_var 2) (da_cons de_int (da_cons (de_op op_sub ro_I0 (de_var 0) de_int) da_nil)))))) da_nil)))))))
        (db_one (ds_ret de_bl))
        db_nil)
      (db_one (ds_ret (de_cmp (op_neK K hr.units) ro_ne (de_ixK K (de_var 1) de_int) (de_ixK K (de_var 1) de_int) (nomark _))))),
      ?_⟩)
  all_goals (
    rintro ds S Q Ed ⟨c, y, z, rfl, py, pz, q⟩
    simp! [sp_is_tuple, isTup, List.length_cons, List.length_nil, show (0 : Int) + 1 + 1 = 2 from rfl]
    rw [if_neg (by simp)]
    refine compAll (fun d => isWithin d 0 (c - 1)) noG_any (le_sz (by simp)) (fun d hd S' sub N hN => ?_) ?_
    · have pd : pu d = true := by
        simp only [List.mem_cons, List.not_mem_nil, or_false] at hd
        rcases hd with rfl | rfl
        · exact py
        · exact pz
      simp! [sp_is_within, pl_of_pu pd]
      exact hN
    · simp! [rd_pu py, rd_pu pz]
      refine ite_bl (fun h => ?_) (fun h => ?_)
      · have : (isWithin y 0 (c - 1) && isWithin z 0 (c - 1) && !eqD y z) = false := by
          revert h
          cases isWithin y 0 (c - 1) <;> cases isWithin z 0 (c - 1) <;> simp
        rw [this] at q
        exact outK.same q
      · have h2 : isWithin y 0 (c - 1) = true ∧ isWithin z 0 (c - 1) = true := by
          revert h
          cases isWithin y 0 (c - 1) <;> cases isWithin z 0 (c - 1) <;> simp
        rw [h2.1, h2.2] at q
        cases y <;> first | exact absurd h2.1 Bool.false_ne_true | skip
        cases z <;> first | exact absurd h2.2 Bool.false_ne_true | skip
        simp! []
        exact outK.same (by simpa [eqD_int] using q))
theorem D_is_pair (A : Al K mg) : Def P w K mg base CX0 3 "is_pair" ["count", "thing"] sp_is_pair := by
  obtain ⟨f, fd, Fu, hm, hb⟩ := fu_is_pair A
  exact ⟨f, fd, O_is_pair A Fu, hm, Fu.kp, hb⟩
end
theorem sc_is_date : FnScope ["thing", "one"] ["thing"] (defScope s_is_date) := ⟨rfl, rfl, rfl, by decide +kernel, rfl, by decide +kernel, by decide +kernel⟩
theorem ar_is_date : ∀ ds S Q E, sp_is_date ds S Q E → ds.length = 1 := by
  rintro ds S Q E h
  simp only [sp_is_date] at h
  obtain ⟨_, h⟩ := h
  repeat (first | (obtain ⟨rfl, _⟩ := h; rfl) | (obtain ⟨_, h⟩ := h))
section
variable {P : Program} {w : World} {K : PySem.W.Frag} {mg : Str → Option Value} {base : Heap}
theorem O_is_date (A : Al K mg) {f : Addr} {fd : FuncData} (Fu : FunD K "is_date" "is_date" (defArgs s_is_date) (defBody s_is_date) (defScope s_is_date) [] [] f fd) : FnG P w K mg base CX0 3 f fd ["thing"] (spD K sp_is_date) := by
  refine fn_d Fu sc_is_date ar_is_date (fun cdv A0 outer s0 H0 E0' hr => ⟨_, _,
      (db_cons (ds_if (dt_w (dw_or (dt_not (dt_val (de_callK (D_is_tuple A) (hr.mono (by omega)) pass0 rfl (da_cons (de_var 0) (da_cons de_int (da_cons de_int da_nil)))))) (dw_or1 (dt_not (dt_val (de_cb (cr_allK K rfl) roc_all rfl A.b_all (by decide +kernel) (da_cons (de_lc false [("one", 1)] rfl sc_is_date.nd (di_seqK K (de_var 0)) (blkOk_by (by kernel_rfl)) (fun _ _ _ _ _ => (dg_name (vs := [1]) 1 (by decide) sc_is_date.nd)) (fun _ _ _ _ _ => dts_nil) (fun _ _ _ _ _ => (de_callK (D_is_bound A) (hr.mono (by omega)) pass0 rfl (da_cons (de_var 1) da_nil)))) da_nil)))))))
        (db_one (ds_ret de_bl))
        db_nil)
      (db_one (ds_ret (de_or (de_cmp (op_inK K) (ro_in false) de_non (de_var 0) (by rfl)) (de_one (de_cmp op_le ro_IB (de_ixK K (de_var 0) de_int) (de_ixK K (de_var 0) de_int) (nomark _))))))),
      ?_⟩)
  all_goals (
    rintro ds S Q Ed ⟨⟨x, y⟩, rfl, ⟨hx, hy, hxy⟩, q⟩
    simp! [sp_is_tuple, isTup, List.length_cons, List.length_nil, show (0 : Int) + 1 + 1 = 2 from rfl]
    rw [if_neg (by simp)]
    refine compAllT noG_any (le_sz (by simp)) (fun d hd S' sub N hN => ?_) ?_
    · have hb : bound d := by
        simp only [List.mem_cons, List.not_mem_nil, or_false] at hd
        rcases hd with rfl | rfl
        · exact hx
        · exact hy
      simp! [sp_is_bound]
      exact ⟨hb, hN⟩
    · rcases hx with rfl | ⟨i, rfl, h1, h2⟩ <;> rcases hy with rfl | ⟨j, rfl, h3, h4⟩
      · simp! [Bool.true_or, Bool.or_true]
        exact outK.same q
      · simp! [Bool.true_or, Bool.or_true]
        exact outK.same q
      · simp! [show eqD (.int i) .non = false from rfl, show eqD .non .non = true from rfl, Bool.true_or, Bool.or_true, Bool.false_or]
        exact outK.same q
      · simp! [show eqD (.int i) .non = false from rfl, show eqD (.int j) .non = false from rfl, Bool.or_self, Bool.false_or, decide_eq_true (hxy i j rfl rfl)]
        exact outK.same q)
theorem D_is_date (A : Al K mg) : Def P w K mg base CX0 3 "is_date" ["thing"] sp_is_date := by
  obtain ⟨f, fd, Fu, hm, hb⟩ := fu_is_date A
  exact ⟨f, fd, O_is_date A Fu, hm, Fu.kp, hb⟩
end
theorem sc_is_window : FnScope ["thing", "one"] ["thing"] (defScope s_is_window) := ⟨rfl, rfl, rfl, by decide +kernel, rfl, by decide +kernel, by decide +kernel⟩
theorem ar_is_window : ∀ ds S Q E, sp_is_window ds S Q E → ds.length = 1 := by
  rintro ds S Q E h
  simp only [sp_is_window] at h
  obtain ⟨_, h⟩ := h
  repeat (first | (obtain ⟨rfl, _⟩ := h; rfl) | (obtain ⟨_, h⟩ := h))
section
variable {P : Program} {w : World} {K : PySem.W.Frag} {mg : Str → Option Value} {base : Heap}
theorem O_is_window (A : Al K mg) {f : Addr} {fd : FuncData} (Fu : FunD K "is_window" "is_window" (defArgs s_is_window) (defBody s_is_window) (defScope s_is_window) [] [] f fd) : FnG P w K mg base CX0 3 f fd ["thing"] (spD K sp_is_window) := by
  refine fn_d Fu sc_is_window ar_is_window (fun cdv A0 outer s0 H0 E0' hr => ⟨_, _,
      (db_cons (ds_if (dt_w (dw_or (dt_not (dt_val (de_callK (D_is_tuple A) (hr.mono (by omega)) pass0 rfl (da_cons (de_var 0) (da_cons de_int (da_cons de_int da_nil)))))) (dw_or1 (dt_not (dt_val (de_cb (cr_allK K rfl) roc_all rfl A.b_all (by decide +kernel) (da_cons (de_lc false [("one", 1)] rfl sc_is_window.nd (di_seqK K (de_var 0)) (blkOk_by (by kernel_rfl)) (fun _ _ _ _ _ => (dg_name (vs := [1]) 1 (by decide) sc_is_window.nd)) (fun _ _ _ _ _ => dts_nil) (fun _ _ _ _ _ => (de_callK (D_is_within A) (hr.mono (by omega)) pass0 rfl (da_cons (de_var 1) (da_cons (de_un un_neg ro_neg (de_gint rfl A.c_FARTHEST_TIME)) (da_cons (de_gint rfl A.c_FARTHEST_TIME) da_nil)))))) da_nil)))))))
        (db_one (ds_ret de_bl))
        db_nil)
      (db_one (ds_ret (de_ch op_le op_le ro_IB ro_IB de_int (de_op op_sub ro_I0 (de_ixK K (de_var 0) de_int) (de_ixK K (de_var 0) de_int)) (de_gint rfl A.c_WIDEST))))),
      ?_⟩)
  all_goals (
    rintro ds S Q Ed ⟨w, rfl, hw, q⟩
    obtain ⟨⟨h1, h2⟩, h3, h4⟩ := hw
    simp! [pD, sp_is_tuple, isTup, sp_is_within, isWithin]
    rw [if_neg (by simp)]
    refine compAllT noG_any (le_sz (by simp)) (fun d hd S' sub N hN => ?_) ?_
    · simp only [List.mem_cons, List.not_mem_nil, or_false] at hd
      rcases hd with rfl | rfl
      · simp! [sp_is_within, isWithin]
        rw [show (decide (-1000 ≤ w.1) && decide (w.1 ≤ 1000)) = true from by simp; omega]
        exact hN
      · simp! [sp_is_within, isWithin]
        rw [show (decide (-1000 ≤ w.2) && decide (w.2 ≤ 1000)) = true from by simp; omega]
        exact hN
    exact ⟨true, rfl, by rw [if_neg (by simp), if_pos (decide_eq_true (by omega)), show (decide (w.2 - w.1 ≤ 40)) = true from decide_eq_true (by omega)]; exact outK.same q⟩)
theorem D_is_window (A : Al K mg) : Def P w K mg base CX0 3 "is_window" ["thing"] sp_is_window := by
  obtain ⟨f, fd, Fu, hm, hb⟩ := fu_is_window A
  exact ⟨f, fd, O_is_window A Fu, hm, Fu.kp, hb⟩
end
theorem sc_plus : FnScope ["one", "other"] ["one", "other"] (defScope s_plus) := ⟨rfl, rfl, rfl, by decide +kernel, rfl, by decide +kernel, by decide +kernel⟩
theorem ar_plus : ∀ ds S Q E, sp_plus ds S Q E → ds.length = 2 := by
  rintro ds S Q E h
  simp only [sp_plus] at h
  obtain ⟨_, h⟩ := h
  repeat (first | (obtain ⟨rfl, _⟩ := h; rfl) | (obtain ⟨_, h⟩ := h))
section
variable {P : Program} {w : World} {K : PySem.W.Frag} {mg : Str → Option Value} {base : Heap}
theorem O_plus (A : Al K mg) {f : Addr} {fd : FuncData} (Fu : FunD K "plus" "plus" (defArgs s_plus) (defBody s_plus) (defScope s_plus) [] [] f fd) : FnG P w K mg base CX0 3 f fd ["one", "other"] (spD K sp_plus) := by
  refine fn_d Fu sc_plus ar_plus (fun cdv A0 outer s0 H0 E0' hr => ⟨_, _,
      (db_one (ds_ret (de_callK (D_reduced A) (hr.mono (by omega)) pass0 rfl (da_cons (de_op (op_addK K) (ro_add false) (de_op (op_mulK K) (ro_mul false) (de_ixK K (de_var 0) de_int) (de_ixK K (de_var 1) de_int)) (de_op (op_mulK K) (ro_mul false) (de_ixK K (de_var 1) de_int) (de_ixK K (de_var 0) de_int))) (da_cons (de_op (op_mulK K) (ro_mul false) (de_ixK K (de_var 0) de_int) (de_ixK K (de_var 1) de_int)) da_nil))))),
      ?_⟩)
  all_goals (
    rintro ds S Q Ed ⟨a, b, rfl, ha, hb, q⟩
    simp! [sp_reduced, frD]
    exact ⟨.inl ⟨by have := ha.1; omega, by have := ha.1; omega⟩, .inl ⟨by have := hb.1; omega, by have := hb.1; omega⟩, .inl ⟨by have := ha.2; omega, by have := ha.2; omega⟩, (fr_mul ha hb).1, (fr_mul ha hb).2, outK.same q⟩)
theorem D_plus (A : Al K mg) : Def P w K mg base CX0 3 "plus" ["one", "other"] sp_plus := by
  obtain ⟨f, fd, Fu, hm, hb⟩ := fu_plus A
  exact ⟨f, fd, O_plus A Fu, hm, Fu.kp, hb⟩
end
theorem sc_product : FnScope ["one", "other"] ["one", "other"] (defScope s_product) := ⟨rfl, rfl, rfl, by decide +kernel, rfl, by decide +kernel, by decide +kernel⟩
theorem ar_product : ∀ ds S Q E, sp_product ds S Q E → ds.length = 2 := by
  rintro ds S Q E h
  simp only [sp_product] at h
  obtain ⟨_, h⟩ := h
  repeat (first | (obtain ⟨rfl, _⟩ := h; rfl) | (obtain ⟨_, h⟩ := h))
section
variable {P : Program} {w : World} {K : PySem.W.Frag} {mg : Str → Option Value} {base : Heap}
theorem O_product (A : Al K mg) {f : Addr} {fd : FuncData} (Fu : FunD K "product" "product" (defArgs s_product) (defBody s_product) (defScope s_product) [] [] f fd) : FnG P w K mg base CX0 3 f fd ["one", "other"] (spD K sp_product) := by
  refine fn_d Fu sc_product ar_product (fun cdv A0 outer s0 H0 E0' hr => ⟨_, _,
      (db_one (ds_ret (de_callK (D_reduced A) (hr.mono (by omega)) pass0 rfl (da_cons (de_op (op_mulK K) (ro_mul false) (de_ixK K (de_var 0) de_int) (de_ixK K (de_var 1) de_int)) (da_cons (de_op (op_mulK K) (ro_mul false) (de_ixK K (de_var 0) de_int) (de_ixK K (de_var 1) de_int)) da_nil))))),
      ?_⟩)
  all_goals (
    rintro ds S Q Ed ⟨a, b, rfl, ha, hb, q⟩
    simp! [sp_reduced, frD]
    exact ⟨.inl ⟨by have := ha.1; omega, by have := ha.1; omega⟩, .inl ⟨by have := ha.2; omega, by have := ha.2; omega⟩, (fr_mul ha hb).1, (fr_mul ha hb).2, outK.same q⟩)
theorem D_product (A : Al K mg) : Def P w K mg base CX0 3 "product" ["one", "other"] sp_product := by
  obtain ⟨f, fd, Fu, hm, hb⟩ := fu_product A
  exact ⟨f, fd, O_product A Fu, hm, Fu.kp, hb⟩
end
theorem sc__law_parts : FnScope ["hand", "least", "most", "has_dates", "has_kinds", "count", "base", "overs", "dates", "kinds", "turn", "one", "other", "place", "layer", "early", "late", "start", "end", "lot"] ["hand", "least", "most", "has_dates", "has_kinds"] (defScope s__law_parts) := ⟨rfl, rfl, rfl, by decide +kernel, rfl, by decide +kernel, by decide +kernel⟩
theorem ar__law_parts : ∀ ds S Q E, sp__law_parts ds S Q E → ds.length = 5 := by
  rintro ds S Q E h
  simp only [sp__law_parts] at h
  obtain ⟨_, h⟩ := h
  repeat (first | (obtain ⟨rfl, _⟩ := h; rfl) | (obtain ⟨_, h⟩ := h))
section
variable {P : Program} {w : World} {K : PySem.W.Frag} {mg : Str → Option Value} {base : Heap}
theorem O__law_parts (A : Al K mg) {f : Addr} {fd : FuncData} (Fu : FunD K "_law_parts" "_law_parts" (defArgs s__law_parts) (defBody s__law_parts) (defScope s__law_parts) [] [] f fd) : FnG P w K mg base CX0 3 f fd ["hand", "least", "most", "has_dates", "has_kinds"] (spD K sp__law_parts) := by
  refine fn_d Fu sc__law_parts ar__law_parts (fun cdv A0 outer s0 H0 E0' hr => ⟨_, _,
      (db_cons (ds_set 5 sc__law_parts.nd (de_op (op_addK K) (ro_add false) (de_var 1) (de_callK (V__law_draw A) (hr.mono (by omega)) pass0 rfl (da_cons (de_var 0) (da_cons (de_op (op_addK K) (ro_add false) (de_op op_sub ro_I0 (de_var 2) (de_var 1)) de_int) da_nil)))))
      (db_cons (ds_set 6 sc__law_parts.nd (de_callK (D__law_mixed A) (hr.mono (by omega)) pass0 rfl (da_cons (de_var 0) (da_cons (de_var 5) da_nil))))
      (db_cons (ds_par3 7 8 9 rfl sc__law_parts.nd (by decide) (by decide) (by decide) (da_cons de_dicTN (da_cons (de_op (op_mulK K) (ro_mul true) (de_lst false (da_cons (de_tup (da_cons de_non (da_cons de_non da_nil))) da_nil)) (de_var 5)) (da_cons (de_lst true da_nil) da_nil))))
      (db_cons (ds_for (vs := [10]) PassesOwn.never rfl (di_range1 rfl A.b_range (da_cons (de_callK (V__law_draw A) (hr.mono (by omega)) pass0 rfl (da_cons (de_var 0) (da_cons (de_op (op_addK K) (ro_add false) (de_var 5) de_int) da_nil))) da_nil)) (dg_name (vs := [10]) 10 (by decide) sc__law_parts.nd)
        (db_cons (ds_par 11 12 rfl sc__law_parts.nd (by decide) (da_cons (de_callK (V__law_draw A) (hr.mono (by omega)) pass0 rfl (da_cons (de_var 0) (da_cons (de_var 5) da_nil))) (da_cons (de_callK (V__law_draw A) (hr.mono (by omega)) pass0 rfl (da_cons (de_var 0) (da_cons (de_var 5) da_nil))) da_nil)))
        (db_one (ds_if (dt_cmp op_lt ro_IB (de_var 11) (de_var 12) (nomark _))
          (db_one (ds_nput K hr.units65 (de_var 7) (de_if (dt_cmp op_gt ro_IB (de_callK (V__law_draw A) (hr.mono (by omega)) pass0 rfl (da_cons (de_var 0) (da_cons de_int da_nil))) de_int (nomark _)) (de_tup (da_cons (de_ixK K (de_var 6) (de_var 12)) (da_cons (de_ixK K (de_var 6) (de_var 11)) da_nil))) (de_tup (da_cons (de_ixK K (de_var 6) (de_var 11)) (da_cons (de_ixK K (de_var 6) (de_var 12)) da_nil)))) de_bl))
          db_nil))))
      (db_cons (ds_if (dt_w (dw_and (dt_val (de_var 3)) (dw_and1 (dt_cmp (op_eqK K hr.units) ro_eq (de_callK (V__law_draw A) (hr.mono (by omega)) pass0 rfl (da_cons (de_var 0) (da_cons de_int da_nil))) de_int (nomark _)))))
        (db_one (ds_for (vs := [13, 14]) PassesOwn.never rfl (di_enumK K rfl A.b_enumerate (da_cons (de_var 6) da_nil)) (dg_tupK K (n := 2) rfl (dgs_cons (dg_name (vs := [13, 14]) 13 (by decide) sc__law_parts.nd) (dgs_cons (dg_name (vs := [13, 14]) 14 (by decide) sc__law_parts.nd) dgs_nil)))
          (db_cons (ds_set 15 sc__law_parts.nd (de_callK (D__law_any A) (hr.mono (by omega)) pass0 rfl (da_cons (de_var 0) (da_cons (de_lst false (da_cons de_non (da_cons de_non (da_cons (de_op op_sub ro_I0 (de_op (op_mulK K) (ro_mul false) de_int (de_var 13)) (de_callK (V__law_draw A) (hr.mono (by omega)) pass0 rfl (da_cons (de_var 0) (da_cons de_int da_nil)))) da_nil)))) da_nil))))
          (db_cons (ds_set 16 sc__law_parts.nd (de_callK (D__law_any A) (hr.mono (by omega)) pass0 rfl (da_cons (de_var 0) (da_cons (de_lst false (da_cons de_non (da_cons de_non (da_cons (de_op (op_addK K) (ro_add false) (de_op (op_mulK K) (ro_mul false) de_int (de_var 13)) (de_callK (V__law_draw A) (hr.mono (by omega)) pass0 rfl (da_cons (de_var 0) (da_cons de_int da_nil)))) da_nil)))) da_nil))))
          (db_one (ds_asg (vs := []) (de_tup (da_cons (de_var 15) (da_cons (de_var 16) da_nil))) (dg_setL (de_var 8) (de_var 14))))))))
        db_nil)
      (db_cons (ds_if (dt_val (de_var 4))
        (db_one (ds_for (vs := [10]) PassesOwn.never rfl (di_range1 rfl A.b_range (da_cons (de_callK (V__law_draw A) (hr.mono (by omega)) pass0 rfl (da_cons (de_var 0) (da_cons de_int da_nil))) da_nil)) (dg_name (vs := [10]) 10 (by decide) sc__law_parts.nd)
          (db_cons (ds_set 17 sc__law_parts.nd (de_callK (V__law_draw A) (hr.mono (by omega)) pass0 rfl (da_cons (de_var 0) (da_cons (de_op op_sub ro_I0 (de_var 5) de_int) da_nil))))
          (db_cons (ds_set 18 sc__law_parts.nd (de_op (op_addK K) (ro_add false) (de_op (op_addK K) (ro_add false) (de_var 17) de_int) (de_callK (V__law_draw A) (hr.mono (by omega)) pass0 rfl (da_cons (de_var 0) (da_cons (de_op op_sub ro_I0 (de_op op_sub ro_I0 (de_var 5) (de_var 17)) de_int) da_nil)))))
          (db_cons (ds_set 19 sc__law_parts.nd (de_if (dt_cmp op_gt ro_IB (de_callK (V__law_draw A) (hr.mono (by omega)) pass0 rfl (da_cons (de_var 0) (da_cons de_int da_nil))) de_int (nomark _)) (de_slK K false (de_var 6) (do_some (de_var 17)) (do_some (de_var 18))) (de_slK K false (de_callK (D__law_mixed A) (hr.mono (by omega)) pass0 rfl (da_cons (de_var 0) (da_cons (de_var 5) da_nil))) do_none (do_some de_int))))
          (db_one (ds_expr (de_bmK K PySem.F.plainAttrs_list PySem.F.slot_list_append PySem.F.type_list_append mt_append rm_append (de_var 9) (da_cons (de_ct (call_tupleK K) roc_tuple rfl A.b_tuple (by decide +kernel) (da_cons (de_cb (cr_sortedK K) (roc_sortedA false) rfl A.b_sorted (by decide +kernel) (da_cons (de_var 19) da_nil)) da_nil)) da_nil)))))))))
        db_nil)
      (db_one (ds_ret (de_tup (da_cons (de_var 5) (da_cons (de_ct (call_tupleK K) roc_tuple rfl A.b_tuple (by decide +kernel) (da_cons (de_cb (cr_sortedN K hr.units rfl) (roc_sortedN false) rfl A.b_sorted (by decide +kernel) (da_cons (de_var 7) da_nil)) da_nil)) (da_cons (de_ct (call_tupleK K) roc_tuple rfl A.b_tuple (by decide +kernel) (da_cons (de_var 8) da_nil)) (da_cons (de_ct (call_tupleK K) roc_tuple rfl A.b_tuple (by decide +kernel) (da_cons (de_var 9) da_nil)) da_nil))))))))))))),
      ?_⟩)
  all_goals (
    rintro ds S Q Ed ⟨t, lo, hi, hasd, hask, rfl, ht, hlo, q⟩
    simp! [wPar, wPar3, drawSp]
    refine ⟨ht, by omega, by omega, fun r hr1 hr2 => ?_⟩
    refine ⟨t, lo + r, rfl, ht, by omega, fun base hp => ?_⟩
    have hlo1 : 2 ≤ lo + r := by omega
    have hhi1 : lo + r ≤ 6 := by omega
    have hbd : lo ≤ lo + r ∧ lo + r ≤ hi := by omega
    generalize lo + r = c at hp hlo1 hhi1 hbd ⊢
    have hl := permN_length (by omega) hp
    have hnd := permN_nodup hp
    simp! [wPar, wPar3, drawSp, wDicTN]
    refine fun a1 ha1 => ⟨le_sz (by decide), le_sz (by decide), by omega, by omega, le_sz (by omega), fun a2 ha2 => ⟨Nat.zero_le _, fun a3 ha3 => ?_⟩⟩
    have n12 : a2 ≠ a1 := fun e => by rw [e, MS.set_same] at ha2; cases ha2
    have n23 : a3 ≠ a2 := fun e => by rw [e, MS.set_same] at ha3; cases ha3
    have n13 : a3 ≠ a1 := fun e => by rw [e, MS.set_ne n12.symm, MS.set_same] at ha3; cases ha3
    have s2 : S a2 = none := by rw [MS.set_ne n12] at ha2; exact ha2
    have s3 : S a3 = none := by rw [MS.set_ne n23, MS.set_ne n13] at ha3; exact ha3
    clear ha2 ha3
    rw [List.flatten_replicate_singleton]
    -- the store: overs at a1, dates at a2, kinds at a3
    obtain ⟨T, hT⟩ : ∃ T : List (List Int) → List D → List D → List D → MS, T = fun o v y z => ((S.set a1 (MO.dicT (o.map nkI) v)).set a2 (MO.lst y)).set a3 (MO.lst z) := ⟨_, rfl⟩
    have eT : ((S.set a1 (MO.dicT [] [])).set a2 (MO.lst (List.replicate c.toNat (D.tup [D.non, D.non])))).set a3 (MO.lst []) = T [] [] (List.replicate c.toNat (D.tup [D.non, D.non])) [] := by rw [hT]; rfl
    rw [eT]
    have tT : ∀ o v y z, T o v y z t = some (.opq (opq2 JH)) := fun o v y z => by
      rw [hT]
      show ((S.set a1 (MO.dicT (o.map nkI) v)).set a2 (MO.lst y)).set a3 (MO.lst z) t = _
      rw [MS.set_ne (MS.ne_of ht s3), MS.set_ne (MS.ne_of ht s2), MS.set_ne (MS.ne_of ht ha1)]
      exact ht
    have T1 : ∀ o v y z, T o v y z a1 = some (.dicT (o.map nkI) v) := fun o v y z => by
      rw [hT]
      show ((S.set a1 (MO.dicT (o.map nkI) v)).set a2 (MO.lst y)).set a3 (MO.lst z) a1 = _
      rw [MS.set_ne n13.symm, MS.set_ne n12.symm, MS.set_same]
    have T2 : ∀ o v y z, T o v y z a2 = some (.lst y) := fun o v y z => by
      rw [hT]
      show ((S.set a1 (MO.dicT (o.map nkI) v)).set a2 (MO.lst y)).set a3 (MO.lst z) a2 = _
      rw [MS.set_ne n23.symm, MS.set_same]
    have T3 : ∀ o v y z, T o v y z a3 = some (.lst z) := fun o v y z => by
      rw [hT]
      exact MS.set_same
    have W1 : ∀ o v y z o' v', (T o v y z).set a1 (.dicT (o'.map nkI) v') = T o' v' y z := fun o v y z o' v' => by
      rw [hT]
      show (((S.set a1 (MO.dicT (o.map nkI) v)).set a2 (MO.lst y)).set a3 (MO.lst z)).set a1 _ = ((S.set a1 (MO.dicT (o'.map nkI) v')).set a2 (MO.lst y)).set a3 (MO.lst z)
      rw [MS.set_comm n13, MS.set_comm n12, MS.set_set]
    have W2 : ∀ o v y z x', (T o v y z).set a2 (.lst x') = T o v x' z := fun o v y z x' => by
      rw [hT]
      show (((S.set a1 (MO.dicT (o.map nkI) v)).set a2 (MO.lst y)).set a3 (MO.lst z)).set a2 (.lst x') = ((S.set a1 (MO.dicT (o.map nkI) v)).set a2 (MO.lst x')).set a3 (MO.lst z)
      rw [MS.set_comm n23, MS.set_set]
    have W3 : ∀ o v y z x', (T o v y z).set a3 (.lst x') = T o v y x' := fun o v y z x' => by
      rw [hT]
      exact MS.set_set
    have sT : ∀ o v y z, DL.Sub S (T o v y z) := fun o v y z => by
      rw [hT]
      exact ((Sub.set ha1).set2 s2).set2 s3
    clear hT eT
    refine ⟨tT _ _ _ _, by omega, by omega, fun i5 h5 h6 => ⟨by omega, by omega, ?_⟩⟩
    -- overs
    refine forW_n (fun i ρ S' => ∃ (os : List (List Int)) (v : List D) (z10 z11 z12 z13 z14 z15 z16 z17 z18 z19 : Option D), S' = T os v (List.replicate c.toNat (D.tup [D.non, D.non])) [] ∧ os.length ≤ i ∧ (∀ r ∈ os, ∃ x y : Int, r = [x, y] ∧ x ≠ y ∧ (0 ≤ x ∧ x < c) ∧ (0 ≤ y ∧ y < c)) ∧ os.Nodup ∧
      ρ = [some (.ref t), some (.int lo), some (.int hi), some (.bl hasd), some (.bl hask), some (.int c), some (.lst (base.map D.int)), some (.ref a1), some (.ref a2), some (.ref a3), z10, z11, z12, z13, z14, z15, z16, z17, z18, z19]) (fun _ _ _ _ => trivial) (fun i d ρ S' hd h N hN => ?hs) (fun ρ S' h => ?hd) ⟨[], [], _, _, _, _, _, _, _, _, _, _, rfl, Nat.zero_le _, fun r h => (nomatch h), List.nodup_nil, rfl⟩
    case hs =>
      obtain ⟨os, v, z10, z11, z12, z13, z14, z15, z16, z17, z18, z19, rfl, ho1, ho2, ho3, rfl⟩ := h
      have hi : i < 7 := by
        have := (List.getElem?_eq_some_iff.mp hd).1
        rw [rangeD_length] at this
        omega
      simp! [wPar, drawSp]
      refine ⟨tT _ _ _ _, by omega, by omega, fun x hx1 hx2 => ⟨tT _ _ _ _, by omega, by omega, fun y hy1 hy2 => ?_⟩⟩
      refine ite_bl (fun hxy => ?_) (fun _ => hN _ _ ⟨os, v, _, _, _, _, _, _, _, _, _, _, rfl, by omega, ho2, ho3, rfl⟩)
      have hxy := of_decide_eq_true hxy
      have lx : x.toNat < base.length := by omega
      have ly : y.toNat < base.length := by omega
      have fin : ∀ u w : Nat, (hu : u < base.length) → (hw : w < base.length) → u ≠ w → ∀ ρ, (∀ os' v', os'.length ≤ i + 1 → (∀ r ∈ os', ∃ x y : Int, r = [x, y] ∧ x ≠ y ∧ (0 ≤ x ∧ x < c) ∧ (0 ≤ y ∧ y < c)) → os'.Nodup → N ρ (T os' v' (List.replicate c.toNat (D.tup [D.non, D.non])) [])) →
          ∃ ks ds, T os v (List.replicate c.toNat (D.tup [D.non, D.non])) [] a1 = some (.dicT ks ds) ∧ ∃ k, D.tup [.int base[u], .int base[w]] = nkD k ∧ okN k = true ∧ ks.length < sizeLine ∧ N ρ ((T os v (List.replicate c.toNat (D.tup [D.non, D.non])) []).set a1 (putDicT k (.bl true) ks ds)) := fun u w hu hw huw ρ hN => by
        refine ⟨_, _, T1 _ _ _ _, nkI [base[u], base[w]], (nkD_nkI [base[u], base[w]]).symm, okN_nkI _, lt_sz (by rw [List.length_map]; omega), ?_⟩
        unfold putDicT
        by_cases hh : hasN (nkI [base[u], base[w]]) (os.map nkI) = true
        · rw [if_pos hh, W1]
          exact hN _ _ (by omega) ho2 ho3
        · rw [if_neg hh, show os.map nkI ++ [nkI [base[u], base[w]]] = (os ++ [[base[u], base[w]]]).map nkI by rw [List.map_append]; rfl, W1]
          have hno : [base[u], base[w]] ∉ os := fun h => hh (by rw [hasN_nkI]; exact decide_eq_true h)
          refine hN _ _ (by rw [List.length_append]; simp; omega) (fun r hr => ?_) ?_
          · rcases List.mem_append.mp hr with h | h
            · exact ho2 r h
            · rw [List.mem_singleton.mp h]
              exact ⟨_, _, rfl, fun e => huw ((List.getElem_inj hnd).mp e), permN_mem hp (List.getElem_mem hu), permN_mem hp (List.getElem_mem hw)⟩
          · rw [List.nodup_append]
            exact ⟨ho3, by simp, fun a ha z hz e => by rw [List.mem_singleton.mp hz] at e; exact hno (e ▸ ha)⟩
      simp! [wNPut, drawSp]
      refine ⟨tT _ _ _ _, by decide, by decide, fun i7 h7 h8 => ?_⟩
      refine ite_bl (fun _ => ?_) (fun _ => ?_)
      · rw [z_ix_lt hy1 (by rw [List.length_map]; omega), getD_int ly]
        rw [z_ix_lt hx1 (by rw [List.length_map]; omega), getD_int lx]
        refine ⟨le_sz (by decide), fin _ _ ly lx (by omega) _ fun os' v' h1 h2 h3 => hN _ _ ⟨os', v', _, _, _, _, _, _, _, _, _, _, rfl, h1, h2, h3, rfl⟩⟩
      · rw [z_ix_lt hx1 (by rw [List.length_map]; omega), getD_int lx]
        rw [z_ix_lt hy1 (by rw [List.length_map]; omega), getD_int ly]
        refine ⟨le_sz (by decide), fin _ _ lx ly (by omega) _ fun os' v' h1 h2 h3 => hN _ _ ⟨os', v', _, _, _, _, _, _, _, _, _, _, rfl, h1, h2, h3, rfl⟩⟩
    case hd =>
      obtain ⟨os, v, z10, z11, z12, z13, z14, z15, z16, z17, z18, z19, rfl, ho1, ho2, ho3, rfl⟩ := h
      rw [rangeD_length] at ho1
      have hos : os.length ≤ 7 := by omega
      clear ho1
      have erep : List.replicate c.toNat (D.tup [D.non, D.non]) = (List.replicate c.toNat ((D.non, D.non) : D × D)).map fun p => D.tup [p.1, p.2] := by rw [List.map_replicate]
      rw [erep]
      -- dates
      dsimp only
      refine mergeQ (fun ρ S' => ∃ (dt : List (D × D)) (z10 z11 z12 z13 z14 z15 z16 z17 z18 z19 : Option D), S' = T os v (dt.map fun p => D.tup [p.1, p.2]) [] ∧ dt.length = c.toNat ∧ (∀ p ∈ dt, dateOk p) ∧ (hasd = false → ∀ p ∈ dt, p = (.non, .non)) ∧ ρ = [some (.ref t), some (.int lo), some (.int hi), some (.bl hasd), some (.bl hask), some (.int c), some (.lst (base.map D.int)), some (.ref a1), some (.ref a2), some (.ref a3), z10, z11, z12, z13, z14, z15, z16, z17, z18, z19]) (fun N hN => ?hs) (fun ρ S' h => ?hd)
      case hs =>
        have same : N [some (.ref t), some (.int lo), some (.int hi), some (.bl hasd), some (.bl hask), some (.int c), some (.lst (base.map D.int)), some (.ref a1), some (.ref a2), some (.ref a3), z10, z11, z12, z13, z14, z15, z16, z17, z18, z19] (T os v ((List.replicate c.toNat ((D.non, D.non) : D × D)).map fun p => D.tup [p.1, p.2]) []) := hN _ _ ⟨_, _, _, _, _, _, _, _, _, _, _, rfl, List.length_replicate, fun p h => by rw [(List.mem_replicate.mp h).2]; exact dateOk_non, fun _ p h => (List.mem_replicate.mp h).2, rfl⟩
        simp! [drawSp]
        cases hasd with
        | false => exact same
        | true =>
          rw [if_pos rfl]
          refine ⟨tT _ _ _ _, by decide, by decide, fun i8 h7 h8 => ite_bl (fun _ => ?_) (fun _ => same)⟩
          clear same
          refine forW_n (fun i ρ S' => ∃ (dt : List (D × D)) (z10 z11 z12 z13 z14 z15 z16 z17 z18 z19 : Option D), S' = T os v (dt.map fun p => D.tup [p.1, p.2]) [] ∧ dt.length = c.toNat ∧ (∀ p ∈ dt, dateOk p) ∧ ρ = [some (.ref t), some (.int lo), some (.int hi), some (.bl true), some (.bl hask), some (.int c), some (.lst (base.map D.int)), some (.ref a1), some (.ref a2), some (.ref a3), z10, z11, z12, z13, z14, z15, z16, z17, z18, z19]) (fun _ _ _ _ => trivial) (fun i d ρ S' hd h M hM => ?hs2) (fun ρ S' h => ?hd2) ⟨_, _, _, _, _, _, _, _, _, _, _, rfl, List.length_replicate, fun p h => by rw [(List.mem_replicate.mp h).2]; exact dateOk_non, rfl⟩
          case hd2 =>
            obtain ⟨dt, z10, z11, z12, z13, z14, z15, z16, z17, z18, z19, rfl, hd1, hd2, rfl⟩ := h
            exact hN _ _ ⟨dt, _, _, _, _, _, _, _, _, _, _, rfl, hd1, hd2, fun e => (nomatch e), rfl⟩
          case hs2 =>
            obtain ⟨dt, z10, z11, z12, z13, z14, z15, z16, z17, z18, z19, rfl, hd1, hd2, rfl⟩ := h
            obtain ⟨j, hj, rfl⟩ := enumD_mem (List.mem_of_getElem? hd)
            rw [List.length_map] at hj
            rw [getD_int hj]
            have hb := permN_mem hp (List.getElem_mem hj)
            generalize base[j] = layer at hb ⊢
            simp! [drawSp]
            have cm : CMul 3 (j : Int) := .inl (by omega)
            refine ⟨cm, tT _ _ _ _, by decide, by decide, fun i1 g1 g2 => ?_⟩
            refine ⟨le_sz (by decide), t, _, rfl, tT _ _ _ _, ⟨by simp, by simp⟩, fun x hx => ?_⟩
            simp! [drawSp]
            refine ⟨cm, tT _ _ _ _, by decide, by decide, fun i2 g3 g4 => ?_⟩
            refine ⟨le_sz (by decide), t, _, rfl, tT _ _ _ _, ⟨by simp, by simp⟩, fun y hy => ?_⟩
            refine ⟨le_sz (by decide), a2, _, layer, layer.toNat, rfl, rfl, T2 _ _ _ _, by rw [List.length_map]; exact ixN_nat hb.1 (by omega), ?_⟩
            rw [W2, show (dt.map fun p => D.tup [p.1, p.2]).set layer.toNat (.tup [x, y]) = (dt.set layer.toNat (x, y)).map fun p => D.tup [p.1, p.2] by rw [List.map_set]]
            refine hM _ _ ⟨_, _, _, _, _, _, _, _, _, _, _, rfl, by rw [List.length_set]; exact hd1, fun p hp' => ?_, rfl⟩
            rcases List.mem_or_eq_of_mem_set hp' with h | rfl
            · exact hd2 p h
            · simp only [List.mem_cons, List.not_mem_nil, or_false, or_self_left] at hx hy
              refine ⟨?_, ?_, fun u w e1 e2 => ?_⟩
              · rcases hx with rfl | rfl
                · exact .inl rfl
                · exact .inr ⟨_, rfl, by omega, by omega⟩
              · rcases hy with rfl | rfl
                · exact .inl rfl
                · exact .inr ⟨_, rfl, by omega, by omega⟩
              · rcases hx with rfl | rfl
                · cases e1
                · rcases hy with rfl | rfl
                  · cases e2
                  · cases e1
                    cases e2
                    omega
      case hd =>
        obtain ⟨dt, z10, z11, z12, z13, z14, z15, z16, z17, z18, z19, rfl, hd1, hd2, hd3, rfl⟩ := h
        refine mergeQ (fun ρ S' => ∃ (ks : List (List Int)) (z10 z11 z12 z13 z14 z15 z16 z17 z18 z19 : Option D), S' = T os v (dt.map fun p => D.tup [p.1, p.2]) (ks.map tupI) ∧ ks.length ≤ 2 ∧ (∀ r ∈ ks, r.Pairwise (· < ·) ∧ (1 < r.length ∧ r.length ≤ 16) ∧ ∀ x ∈ r, 0 ≤ x ∧ x < c) ∧ (hask = false → ks = []) ∧ ρ = [some (.ref t), some (.int lo), some (.int hi), some (.bl hasd), some (.bl hask), some (.int c), some (.lst (base.map D.int)), some (.ref a1), some (.ref a2), some (.ref a3), z10, z11, z12, z13, z14, z15, z16, z17, z18, z19]) (fun N hN => ?hs3) (fun ρ S' h => ?hd3)
        case hs3 =>
          have same : N [some (.ref t), some (.int lo), some (.int hi), some (.bl hasd), some (.bl hask), some (.int c), some (.lst (base.map D.int)), some (.ref a1), some (.ref a2), some (.ref a3), z10, z11, z12, z13, z14, z15, z16, z17, z18, z19] (T os v (dt.map fun p => D.tup [p.1, p.2]) []) := hN _ _ ⟨[], _, _, _, _, _, _, _, _, _, _, rfl, Nat.zero_le _, fun p h => (nomatch h), fun _ => rfl, rfl⟩
          simp! [drawSp]
          cases hask with
          | false => exact same
          | true =>
            rw [if_pos rfl]
            clear same
            refine ⟨tT _ _ _ _, by decide, by decide, fun i8 h7 h8 => ⟨by omega, by omega, ?_⟩⟩
            refine forW_n (fun i ρ S' => ∃ (ks : List (List Int)) (z10 z11 z12 z13 z14 z15 z16 z17 z18 z19 : Option D), S' = T os v (dt.map fun p => D.tup [p.1, p.2]) (ks.map tupI) ∧ ks.length ≤ i ∧ (∀ r ∈ ks, r.Pairwise (· < ·) ∧ (1 < r.length ∧ r.length ≤ 16) ∧ ∀ x ∈ r, 0 ≤ x ∧ x < c) ∧ ρ = [some (.ref t), some (.int lo), some (.int hi), some (.bl hasd), some (.bl true), some (.int c), some (.lst (base.map D.int)), some (.ref a1), some (.ref a2), some (.ref a3), z10, z11, z12, z13, z14, z15, z16, z17, z18, z19]) (fun _ _ _ _ => trivial) (fun i d ρ S' hd h M hM => ?hs4) (fun ρ S' h => ?hd4) ⟨[], _, _, _, _, _, _, _, _, _, _, rfl, Nat.zero_le _, fun p h => (nomatch h), rfl⟩
            case hd4 =>
              obtain ⟨ks, z10, z11, z12, z13, z14, z15, z16, z17, z18, z19, rfl, hk1, hk2, rfl⟩ := h
              rw [rangeD_length] at hk1
              exact hN _ _ ⟨ks, _, _, _, _, _, _, _, _, _, _, rfl, by omega, hk2, fun e => (nomatch e), rfl⟩
            case hs4 =>
              obtain ⟨ks, z10, z11, z12, z13, z14, z15, z16, z17, z18, z19, rfl, hk1, hk2, rfl⟩ := h
              have hi : i < 2 := by
                have := (List.getElem?_eq_some_iff.mp hd).1
                rw [rangeD_length] at this
                omega
              simp! [drawSp]
              refine ⟨tT _ _ _ _, by omega, by omega, fun st g1 g2 => ⟨tT _ _ _ _, by omega, by omega, fun e g3 g4 => ⟨tT _ _ _ _, by decide, by decide, fun w g5 g6 => ?_⟩⟩⟩
              have fin : ∀ (ls : List Int) (ρ : Rho), ls.Nodup → (∀ x ∈ ls, 0 ≤ x ∧ x < c) → 1 < ls.length → (∀ ks' : List (List Int), ks'.length ≤ i + 1 → (∀ r ∈ ks', r.Pairwise (· < ·) ∧ (1 < r.length ∧ r.length ≤ 16) ∧ ∀ x ∈ r, 0 ≤ x ∧ x < c) → M ρ (T os v (dt.map fun p => D.tup [p.1, p.2]) (ks'.map tupI))) → cSortedA false (.lst (ls.map D.int)) (T os v (dt.map fun p => D.tup [p.1, p.2]) (ks.map tupI)) fun d S2 => cTuple (rd S2 d) S2 fun d S2 => wAppend (.ref a3) [d] S2 fun d_1 S3 => M ρ S3 := fun ls ρ q1 q2 q3 hM => by
                refine ⟨ls, rfl, fun ns hn hs => ?_⟩
                rw [newL_f]
                simp! []
                refine ⟨_, _, _, rfl, rfl, T3 _ _ _ _, lt_sz (by rw [List.length_map]; omega), ?_⟩
                rw [W3, show ks.map tupI ++ [D.tup (ns.map D.int)] = (ks ++ [ns]).map tupI by rw [List.map_append]; rfl]
                refine hM _ (by rw [List.length_append]; simp; omega) fun r hr => ?_
                rcases List.mem_append.mp hr with h | h
                · exact hk2 r h
                · rw [List.mem_singleton.mp h]
                  have hnd2 : ns.Nodup := hn.nodup_iff.mpr q1
                  have hle : ls.length ≤ c.toNat := by
                    have := nodup_len_range q1 q2
                    exact this
                  refine ⟨(hs.and hnd2).imp fun ⟨h1, h2⟩ => by omega, ⟨by rw [hn.length_eq]; exact q3, by rw [hn.length_eq]; omega⟩, fun x hx => q2 x (hn.mem_iff.mp hx)⟩
              refine ite_bl (fun _ => ?_) (fun _ => ?_)
              · refine ⟨by rw [rd_ref (T3 _ _ _ _)]; rfl, ?_⟩
                rw [cutD_mid (by omega) (by omega) (by rw [List.length_map]; omega), ← List.map_drop, ← List.map_take]
                refine fin _ _ ?_ (fun x hx => permN_mem hp (List.mem_of_mem_drop (List.mem_of_mem_take hx))) ?_ fun ks' h1 h2 => hM _ _ ⟨ks', _, _, _, _, _, _, _, _, _, _, rfl, h1, h2, rfl⟩
                · exact ((List.take_sublist _ _).trans (List.drop_sublist _ _)).nodup hnd
                · rw [List.length_take, List.length_drop]
                  omega
              · refine ⟨t, c, rfl, tT _ _ _ _, by omega, fun o ho => ?_⟩
                simp! []
                rw [cutD_to (by decide), ← List.map_take]
                have hol := permN_length (by omega) ho
                refine ⟨by rw [rd_ref (T3 _ _ _ _)]; rfl, ?_⟩
                refine fin _ _ ((List.take_sublist _ _).nodup (permN_nodup ho)) (fun x hx => permN_mem ho (List.mem_of_mem_take hx)) ?_ fun ks' h1 h2 => hM _ _ ⟨ks', _, _, _, _, _, _, _, _, _, _, rfl, h1, h2, rfl⟩
                rw [List.length_take]
                have : (2 : Int).toNat = 2 := rfl
                omega
        case hd3 =>
          obtain ⟨ks, z10, z11, z12, z13, z14, z15, z16, z17, z18, z19, rfl, hk1, hk2, hk3, rfl⟩ := h
          simp! []
          refine ⟨os.map nkI, v, rd_dicT (T1 _ _ _ _), ?_, fun k hk => ?_, ?_⟩
          · rw [map_nkD_nkI]
            refine okSort_rows fun r hr e => ?_
            obtain ⟨x, y, e2, _⟩ := ho2 r hr
            rw [e2] at e
            cases e
          · obtain ⟨r, _, rfl⟩ := List.mem_map.mp hk
            rw [nkD_nkI]
            exact okL_row (by decide) r
          rw [newL_f, map_nkD_nkI, sortD_enc EnO.row]
          simp! [rd_ref (T2 _ _ _ _), rd_ref (T3 _ _ _ _)]
          refine ⟨le_sz (by decide), outK.mk (sT _ _ _ _) ?_⟩
          have hm : ∀ r, r ∈ os.mergeSort (fun a b => !decide (b < a)) ↔ r ∈ os := fun r => (List.mergeSort_perm _ _).mem_iff
          refine q ⟨c, os.mergeSort fun a b => !decide (b < a), dt, ks⟩ hbd ⟨⟨by show 1 ≤ c; omega, by show c ≤ 16; omega⟩, ⟨fun r hr => ho2 r ((hm r).mp hr), sort_rows_lt ho3⟩, ⟨by show (dt.length : Int) = c; omega, hd2⟩, by show ks.length ≤ 16; omega, hk2⟩ ?_ hd3 hk3
          rw [List.length_mergeSort]
          omega)
theorem D__law_parts (A : Al K mg) : Def P w K mg base CX0 3 "_law_parts" ["hand", "least", "most", "has_dates", "has_kinds"] sp__law_parts := by
  obtain ⟨f, fd, Fu, hm, hb⟩ := fu__law_parts A
  exact ⟨f, fd, O__law_parts A Fu, hm, Fu.kp, hb⟩
end
theorem sc_are_overs : FnScope ["count", "thing", "pair", "one", "other"] ["count", "thing"] (defScope s_are_overs) := ⟨rfl, rfl, rfl, by decide +kernel, rfl, by decide +kernel, by decide +kernel⟩
theorem ar_are_overs : ∀ ds S Q E, sp_are_overs ds S Q E → ds.length = 2 := by
  rintro ds S Q E h
  simp only [sp_are_overs] at h
  obtain ⟨_, h⟩ := h
  repeat (first | (obtain ⟨rfl, _⟩ := h; rfl) | (obtain ⟨_, h⟩ := h))
section
variable {P : Program} {w : World} {K : PySem.W.Frag} {mg : Str → Option Value} {base : Heap}
theorem O_are_overs (A : Al K mg) {f : Addr} {fd : FuncData} (Fu : FunD K "are_overs" "are_overs" (defArgs s_are_overs) (defBody s_are_overs) (defScope s_are_overs) [] [] f fd) : FnG P w K mg base CX0 4 f fd ["count", "thing"] (spD K sp_are_overs) := by
  refine fn_d Fu sc_are_overs ar_are_overs (fun cdv A0 outer s0 H0 E0' hr => ⟨_, _,
      (db_cons (ds_if (dt_w (dw_or (dt_not (dt_val (de_isiK K .tuple rfl A.b_isinstance (de_var 1) A.b_tuple))) (dw_or1 (dt_not (dt_val (de_cb (cr_allK K rfl) roc_all rfl A.b_all (by decide +kernel) (da_cons (de_lc false [("pair", 2)] rfl sc_are_overs.nd (di_seqK K (de_var 1)) (blkOk_by (by kernel_rfl)) (fun _ _ _ _ _ => (dg_name (vs := [2]) 2 (by decide) sc_are_overs.nd)) (fun _ _ _ _ _ => dts_nil) (fun _ _ _ _ _ => (de_callK (D_is_pair A) (hr.mono (by omega)) pass0 rfl (da_cons (de_var 0) (da_cons (de_var 2) da_nil))))) da_nil)))))))
        (db_one (ds_ret de_bl))
        db_nil)
      (db_one (ds_ret (de_cb (cr_allK K rfl) roc_all rfl A.b_all (by decide +kernel) (da_cons (de_lc false [("one", 3), ("other", 4)] rfl sc_are_overs.nd (di_zipK K rfl A.b_zip (da_cons (de_var 1) (da_cons (de_slK K false (de_var 1) (do_some de_int) do_none) da_nil))) (blkOk_by (by kernel_rfl)) (fun _ _ _ _ _ => (dg_tupK K (n := 2) rfl (dgs_cons (dg_name (vs := [3, 4]) 3 (by decide) sc_are_overs.nd) (dgs_cons (dg_name (vs := [3, 4]) 4 (by decide) sc_are_overs.nd) dgs_nil)))) (fun _ _ _ _ _ => dts_nil) (fun _ _ _ _ _ => (de_cmp (op_ltTK K hr.un1) ro_ltT (de_var 3) (de_var 4) (nomark _)))) da_nil))))),
      ?_⟩)
  all_goals (
    rintro ds S Q Ed ⟨c, rs, rfl, hz, hr, hp, q⟩
    simp! []
    refine compAllT noG_any (le_sz (by rw [List.length_map]; omega)) (fun d hd S' sub N hN => ?_) ?_
    · obtain ⟨r, hm, rfl⟩ := List.mem_map.mp hd
      obtain ⟨x, y, rfl, hne, hx, hy⟩ := hr r hm
      simp! [sp_is_pair, pu_int]
      rw [show isWithin (.int x) 0 (c - 1) = true by simp [isWithin]; omega, show isWithin (.int y) 0 (c - 1) = true by simp [isWithin]; omega, decide_eq_false hne]
      exact hN
    · simp! [cutD_from (show (0 : Int) ≤ 1 by decide)]
      refine compAllT noG_any (le_sz (by rw [zipD_length, List.length_map]; omega)) (fun d hd S' sub N hN => ?_) (outK.same q)
      obtain ⟨i, h1, h2, rfl⟩ := zipD_mem hd
      rw [List.length_map] at h1
      rw [List.length_drop, List.length_map] at h2
      have h3 : i + 1 < rs.length := by have : (1 : Int).toNat = 1 := rfl; omega
      have e1 : (rs.map tupI).getD i .non = tupI rs[i] := by
        rw [List.getD_eq_getElem?_getD, List.getElem?_map, List.getElem?_eq_getElem h1]; rfl
      have e2 : ((rs.map tupI).drop (Int.toNat 1)).getD i .non = tupI rs[i + 1] := by
        rw [List.getD_eq_getElem?_getD, List.getElem?_drop, show Int.toNat 1 + i = i + 1 from by show 1 + i = i + 1; omega, List.getElem?_map, List.getElem?_eq_getElem h3]; rfl
      rw [e1, e2]
      have := List.pairwise_iff_getElem.mp hp i (i + 1) h1 h3 (by omega)
      simp! [wLtT]
      refine ⟨_, rfl, _, rfl, ?_⟩
      rw [lexLt_eq, decide_eq_true this]
      exact hN)
theorem D_are_overs (A : Al K mg) : Def P w K mg base CX0 4 "are_overs" ["count", "thing"] sp_are_overs := by
  obtain ⟨f, fd, Fu, hm, hb⟩ := fu_are_overs A
  exact ⟨f, fd, O_are_overs A Fu, hm, Fu.kp, hb⟩
end
theorem sc_is_kind : FnScope ["count", "thing"] ["count", "thing"] (defScope s_is_kind) := ⟨rfl, rfl, rfl, by decide +kernel, rfl, by decide +kernel, by decide +kernel⟩
theorem ar_is_kind : ∀ ds S Q E, sp_is_kind ds S Q E → ds.length = 2 := by
  rintro ds S Q E h
  simp only [sp_is_kind] at h
  obtain ⟨_, h⟩ := h
  repeat (first | (obtain ⟨rfl, _⟩ := h; rfl) | (obtain ⟨_, h⟩ := h))
section
variable {P : Program} {w : World} {K : PySem.W.Frag} {mg : Str → Option Value} {base : Heap}
theorem O_is_kind (A : Al K mg) {f : Addr} {fd : FuncData} (Fu : FunD K "is_kind" "is_kind" (defArgs s_is_kind) (defBody s_is_kind) (defScope s_is_kind) [] [] f fd) : FnG P w K mg base CX0 4 f fd ["count", "thing"] (spD K sp_is_kind) := by
  refine fn_d Fu sc_is_kind ar_is_kind (fun cdv A0 outer s0 H0 E0' hr => ⟨_, _,
      (db_one (ds_ret (de_and (de_callK (D_is_lot A) (hr.mono (by omega)) pass0 rfl (da_cons (de_var 1) (da_cons (de_var 0) da_nil))) (de_one (de_cmp op_gt ro_IB (de_cb (call_lenK K) roc_len rfl A.b_len (by decide +kernel) (da_cons (de_var 1) da_nil)) de_int (nomark _)))))),
      ?_⟩)
  all_goals (
    rintro ds S Q Ed ⟨c, r, rfl, hz, ⟨hp, hm⟩, hl, q⟩
    simp! [sp_is_lot]
    refine ⟨r, rfl, hz, hp, hm, ?_⟩
    rw [List.length_map, decide_eq_true (by omega)]
    exact outK.same q)
theorem D_is_kind (A : Al K mg) : Def P w K mg base CX0 4 "is_kind" ["count", "thing"] sp_is_kind := by
  obtain ⟨f, fd, Fu, hm, hb⟩ := fu_is_kind A
  exact ⟨f, fd, O_is_kind A Fu, hm, Fu.kp, hb⟩
end
theorem sc_check_window : FnScope ["window", "strict"] ["window", "strict"] (defScope s_check_window) := ⟨rfl, rfl, rfl, by decide +kernel, rfl, by decide +kernel, by decide +kernel⟩
theorem ar_check_window : ∀ ds S Q E, sp_check_window ds S Q E → ds.length = 2 := by
  rintro ds S Q E h
  simp only [sp_check_window] at h
  obtain ⟨_, h⟩ := h
  repeat (first | (obtain ⟨rfl, _⟩ := h; rfl) | (obtain ⟨_, h⟩ := h))
section
variable {P : Program} {w : World} {K : PySem.W.Frag} {mg : Str → Option Value} {base : Heap}
theorem O_check_window (A : Al K mg) {f : Addr} {fd : FuncData} (Fu : FunD K "check_window" "check_window" (defArgs s_check_window) (defBody s_check_window) (defScope s_check_window) [] [] f fd) : FnG P w K mg base CX0 4 f fd ["window", "strict"] (spD K sp_check_window) := by
  refine fn_d Fu sc_check_window ar_check_window (fun cdv A0 outer s0 H0 E0' hr => ⟨_, _,
      (db_cons (ds_if (dt_not (dt_val (de_callK (D_is_window A) (hr.mono (by omega)) pass0 rfl (da_cons (de_var 0) da_nil))))
        (db_one ds_never)
        db_nil)
      (db_one (ds_if (dt_not (dt_val (de_isiK K .bool rfl A.b_isinstance (de_var 1) A.b_bool)))
        (db_one ds_never)
        db_nil))),
      ?_⟩)
  all_goals (
    rintro ds S Q Ed ⟨w, s, rfl, hw, q⟩
    simp! [sp_is_window]
    exact ⟨w, rfl, hw, outK.same q⟩)
theorem D_check_window (A : Al K mg) : Def P w K mg base CX0 4 "check_window" ["window", "strict"] sp_check_window := by
  obtain ⟨f, fd, Fu, hm, hb⟩ := fu_check_window A
  exact ⟨f, fd, O_check_window A Fu, hm, Fu.kp, hb⟩
end
theorem sc_Book___init__ : FnScope ["self", "count", "overs", "dates", "kinds", "date", "kind"] ["self", "count", "overs", "dates", "kinds"] (defScope s_Book___init__) := ⟨rfl, rfl, rfl, by decide +kernel, rfl, by decide +kernel, by decide +kernel⟩
theorem ar_Book___init__ : ∀ ds S Q E, sp_Book___init__ ds S Q E → ds.length = 5 := by
  rintro ds S Q E h
  simp only [sp_Book___init__] at h
  obtain ⟨_, h⟩ := h
  repeat (first | (obtain ⟨rfl, _⟩ := h; rfl) | (obtain ⟨_, h⟩ := h))
section
variable {P : Program} {w : World} {K : PySem.W.Frag} {mg : Str → Option Value} {base : Heap}
theorem O_Book___init__ (A : Al K mg) {f : Addr} {fd : FuncData} (Fu : FunD K "__init__" "Book.__init__" (defArgs s_Book___init__) (defBody s_Book___init__) (defScope s_Book___init__) [] [] f fd) : FnG P w K mg base CX0 5 f fd ["self", "count", "overs", "dates", "kinds"] (spD K sp_Book___init__) := by
  refine fn_d Fu sc_Book___init__ ar_Book___init__ (fun cdv A0 outer s0 H0 E0' hr => ⟨_, _,
      (db_cons (ds_if (dt_not (dt_val (de_callK (D_is_within A) (hr.mono (by omega)) pass0 rfl (da_cons (de_var 1) (da_cons de_int (da_cons (de_gint rfl A.c_MOST_LAYERS) da_nil))))))
        (db_one ds_never)
        db_nil)
      (db_cons (ds_if (dt_not (dt_val (de_callK (D_are_overs A) (hr.mono (by omega)) pass0 rfl (da_cons (de_var 1) (da_cons (de_var 2) da_nil)))))
        (db_one ds_never)
        db_nil)
      (db_cons (ds_if (dt_w (dw_or (dt_not (dt_val (de_callK (D_is_tuple A) (hr.mono (by omega)) pass0 rfl (da_cons (de_var 3) (da_cons (de_var 1) (da_cons (de_var 1) da_nil)))))) (dw_or1 (dt_not (dt_val (de_cb (cr_allK K rfl) roc_all rfl A.b_all (by decide +kernel) (da_cons (de_lc false [("date", 5)] rfl sc_Book___init__.nd (di_seqK K (de_var 3)) (blkOk_by (by kernel_rfl)) (fun _ _ _ _ _ => (dg_name (vs := [5]) 5 (by decide) sc_Book___init__.nd)) (fun _ _ _ _ _ => dts_nil) (fun _ _ _ _ _ => (de_callK (D_is_date A) (hr.mono (by omega)) pass0 rfl (da_cons (de_var 5) da_nil)))) da_nil)))))))
        (db_one ds_never)
        db_nil)
      (db_cons (ds_if (dt_w (dw_or (dt_not (dt_val (de_callK (D_is_tuple A) (hr.mono (by omega)) pass0 rfl (da_cons (de_var 4) (da_cons de_int (da_cons (de_gint rfl A.c_MOST_KINDS) da_nil)))))) (dw_or1 (dt_not (dt_val (de_cb (cr_allK K rfl) roc_all rfl A.b_all (by decide +kernel) (da_cons (de_lc false [("kind", 6)] rfl sc_Book___init__.nd (di_seqK K (de_var 4)) (blkOk_by (by kernel_rfl)) (fun _ _ _ _ _ => (dg_name (vs := [6]) 6 (by decide) sc_Book___init__.nd)) (fun _ _ _ _ _ => dts_nil) (fun _ _ _ _ _ => (de_callK (D_is_kind A) (hr.mono (by omega)) pass0 rfl (da_cons (de_var 1) (da_cons (de_var 6) da_nil))))) da_nil)))))))
        (db_one ds_never)
        db_nil)
      (db_cons (ds_asg (vs := []) (de_tup (da_cons (de_var 1) (da_cons (de_var 2) da_nil))) (dg_tupK K (n := 2) rfl (dgs_cons (dg_fld K (vs := []) A.cls_Book A.na_Book_count (de_var 0)) (dgs_cons (dg_fld K (vs := []) A.cls_Book A.na_Book_overs (de_var 0)) dgs_nil))))
      (db_cons (ds_asg (vs := []) (de_tup (da_cons (de_var 3) (da_cons (de_var 4) da_nil))) (dg_tupK K (n := 2) rfl (dgs_cons (dg_fld K (vs := []) A.cls_Book A.na_Book_dates (de_var 0)) (dgs_cons (dg_fld K (vs := []) A.cls_Book A.na_Book_kinds (de_var 0)) dgs_nil))))
      (db_one (ds_asg (vs := []) de_dicN (dg_fld K (vs := []) A.cls_Book A.na_Book_looked (de_var 0)))))))))),
      ?_⟩)
  all_goals (
    rintro ds S Q Ed ⟨a, b, rfl, ha, ⟨hc, ⟨ho1, ho2⟩, ⟨hd1, hd2⟩, ⟨hk1, hk2⟩⟩, hz, q⟩
    simp! [sp_is_within, isWithin, sp_are_overs, sp_is_tuple, isTup]
    rw [if_neg (by simp; omega)]
    refine ⟨b.overs, rfl, hz, fun r hr => ?_, ho2, ?_⟩
    · obtain ⟨x, y, h1, h2, h3, h4⟩ := ho1 r hr
      exact ⟨x, y, h1, h2, h3.1, h3.2, h4⟩
    rw [if_neg (by simp [hd1])]
    refine compAllT noG_any (le_sz (by rw [List.length_map]; omega)) (fun d hd S' sub N hN => ?_) ?_
    · obtain ⟨pr, hp, rfl⟩ := List.mem_map.mp hd
      simp! [sp_is_date]
      exact ⟨pr, rfl, rfl, hd2 pr hp, hN⟩
    simp! []
    rw [if_neg (by simp; omega)]
    refine compAllT noG_any (le_sz (by rw [List.length_map]; omega)) (fun d hd S' sub N hN => ?_) ?_
    · obtain ⟨r, hr, rfl⟩ := List.mem_map.mp hd
      obtain ⟨h1, h2, h3⟩ := hk2 r hr
      simp! [sp_is_kind]
      exact ⟨r, rfl, by omega, h1, h3, h2.1, hN⟩
    have p1 : ∀ v : D, putD "count" v [] [] = ((["count"] : List Str), [v]) := fun _ => rfl
    have p2 : ∀ u v : D, putD "overs" v ["count"] [u] = ((["count", "overs"] : List Str), [u, v]) := fun _ _ => rfl
    have p3 : ∀ u1 u2 v : D, putD "dates" v ["count", "overs"] [u1, u2] = ((["count", "overs", "dates"] : List Str), [u1, u2, v]) := fun _ _ _ => rfl
    have p4 : ∀ u1 u2 u3 v : D, putD "kinds" v ["count", "overs", "dates"] [u1, u2, u3] = ((["count", "overs", "dates", "kinds"] : List Str), [u1, u2, u3, v]) := fun _ _ _ _ => rfl
    have p5 : ∀ u1 u2 u3 u4 v : D, putD "looked" v ["count", "overs", "dates", "kinds"] [u1, u2, u3, u4] = ((["count", "overs", "dates", "kinds", "looked"] : List Str), [u1, u2, u3, u4, v]) := fun _ _ _ _ _ => rfl
    simp! [wgFld, ha]
    repeat (refine And.intro (by first | assumption | rfl | (rw [sizeLine_eq] ; simp only [List.length_append, List.length_cons, List.length_nil, List.length_map, List.length_replicate, rep_len] ; omega) | (simp only [List.length_append, List.length_cons, List.length_nil, List.length_map, List.length_replicate, rep_len] ; omega) | omega | (rw [sizeLine_eq] ; omega)) ?_)
    refine ⟨[], [], rfl, by simp, [_], [_], by rw [p1]; exact MS.set_same, by simp, le_sz (by decide), [_, _], [_, _], by rw [p2]; exact MS.set_same, by simp, [_, _, _], [_, _, _], by rw [p3]; exact MS.set_same, by simp, ?_⟩
    rw [p1, p2, p3, p4]
    simp only [MS.set_set]
    intro d hd'
    have da : d ≠ a := fun e => by rw [e, MS.set_same] at hd'; cases hd'
    refine ⟨_, _, by rw [MS.set_ne (Ne.symm da)]; exact MS.set_same, by simp, outK.same ?_⟩
    rw [p5, MS.set_comm da, MS.set_set]
    exact q d (by rw [MS.set_ne da] at hd'; exact hd'))
theorem D_Book___init__ (A : Al K mg) : DefM P w K mg base CX0 5 (He.ma K (He.ga K "Book") "__init__") ["self", "count", "overs", "dates", "kinds"] sp_Book___init__ := by
  obtain ⟨fd, Fu, hb⟩ := fu_Book___init__ A
  exact ⟨fd, O_Book___init__ A Fu, hb⟩
end
theorem sc_Planner_many : FnScope ["self", "bounds", "first", "key", "total", "time", "later"] ["self", "bounds", "first"] (defScope s_Planner_many) := ⟨rfl, rfl, rfl, by decide +kernel, rfl, by decide +kernel, by decide +kernel⟩
theorem ar_Planner_many (n : Nat) : ∀ ds S Q E, sp_Planner_many (n + 1) ds S Q E → ds.length = 3 := by
  rintro ds S Q E h
  simp only [sp_Planner_many] at h
  obtain ⟨_, h⟩ := h
  repeat (first | (obtain ⟨rfl, _⟩ := h; rfl) | (obtain ⟨_, h⟩ := h))
section
variable {P : Program} {w : World} {K : PySem.W.Frag} {mg : Str → Option Value} {base : Heap}
theorem D_Planner_many (A : Al K mg) : ∀ n : Nat, DefM P w K mg base CX0 (2 + n) (He.ma K (He.ga K "Planner") "many") ["self", "bounds", "first"] (sp_Planner_many n)
  | 0 => by
    obtain ⟨fd, Fu, hb⟩ := fu_Planner_many A
    exact ⟨fd, ⟨fun vs H Q E h => (by obtain ⟨_, _, _, _, _, _, _, h, _⟩ := h; exact h.elim), fun _ _ _ H _ _ vs Q E _ _ _ _ _ h => (by obtain ⟨_, _, _, _, _, _, _, h, _⟩ := h; exact h.elim)⟩, hb⟩
  | n + 1 => by
    have ih := D_Planner_many A n
    obtain ⟨fd, Fu, hb⟩ := fu_Planner_many A
    refine ⟨fd, fn_d (k := 2 + n) Fu sc_Planner_many (ar_Planner_many n) (fun cdv A0 outer s0 H0 E0' hr => ⟨_, _,
      (db_cons (ds_if (dt_cmp (op_eqK K hr.units) ro_eq (de_var 2) (de_fld K A.cls_Book A.na_Book_count (de_fld K A.cls_Planner A.na_Planner_book (de_var 0))) (nomark _))
        (db_one (ds_ret de_int))
        db_nil)
      (db_cons (ds_set 3 sc_Planner_many.nd (de_tup (da_cons (de_slK K false (de_var 1) (do_some (de_var 2)) do_none) (da_cons (de_var 2) da_nil))))
      (db_cons (ds_if (dt_cmp (op_nNotInK K hr.units65) (ro_nIn true) (de_var 3) (de_fld K A.cls_Planner A.na_Planner_known (de_var 0)) (by rfl))
        (db_cons (ds_set 4 sc_Planner_many.nd de_int)
        (db_cons (ds_for (vs := [5]) PassesOwn.never rfl (di_range2 rfl A.b_range (da_cons (de_ixK K (de_ixK K (de_var 1) (de_var 2)) de_int) (da_cons (de_op (op_addK K) (ro_add false) (de_ixK K (de_ixK K (de_var 1) (de_var 2)) de_int) de_int) da_nil))) (dg_name (vs := [5]) 5 (by decide) sc_Planner_many.nd)
          (db_cons (ds_set 6 sc_Planner_many.nd (de_meth A.cls_Planner A.m_Planner_narrowed (D_Planner_narrowed A) (hr.mono (by omega)) pass0 (de_var 0) (da_cons (de_var 1) (da_cons (de_var 2) (da_cons (de_var 5) da_nil)))))
          (db_one (ds_set 4 sc_Planner_many.nd (de_op (op_addK K) (ro_add false) (de_var 4) (de_if (dt_cmp op_isN ro_isN (de_var 6) de_non (nomark _)) de_int (de_meth A.cls_Planner A.m_Planner_many ih (hr.mono (by omega)) pass0 (de_var 0) (da_cons (de_var 6) (da_cons (de_op (op_addK K) (ro_add false) (de_var 2) de_int) da_nil)))))))))
        (db_one (ds_nput K hr.units65 (de_fld K A.cls_Planner A.na_Planner_known (de_var 0)) (de_var 3) (de_var 4)))))
        db_nil)
      (db_one (ds_ret (de_nget K hr.units65 (de_fld K A.cls_Planner A.na_Planner_known (de_var 0)) (de_var 3))))))),
      ?_⟩), hb⟩
    all_goals (
      rintro ds S Q Ed ⟨P, bs, f, rfl, at0, hI, hf, hn, q⟩
      have ok := at0.ok
      obtain ⟨⟨hb, hc4, ho⟩, hw⟩ := ok
      have hcn : (P.n : Int) = P.b.count := by unfold Pl.n; have := hb.1; omega
      obtain ⟨L0, hL0, hk0⟩ := at0.kn
      have nm : ("many" : Str) ∉ plN := by decide
      have nn : ("narrowed" : Str) ∉ plN := by decide
      simp! [bdD, wPar, plX, D.obj.injEq, fs_known, fs_book, bkV, f_count]
      refine ite_any (fun h => ?_) (fun h => ?_)
      · have h : f = P.n := by have := of_decide_eq_true h; omega
        subst h
        rw [Nat.sub_self] at q
        have q1 := q L0 hL0
        rw [MS.set_id hk0] at q1
        exact outK.same q1
      have hlt : f < P.n := by
        refine Nat.lt_of_le_of_ne hf fun e => h (decide_eq_true ?_)
        rw [e]
        exact hcn
      obtain ⟨p, hp⟩ : ∃ p, bs[f]? = some p := ⟨_, List.getElem?_eq_getElem (by rw [hI.1]; exact hlt)⟩
      have hpw := hI.2.1 p (List.mem_of_getElem? hp)
      have hcut : D.tup [D.tup (DL.cutD (List.map pD bs) (some (f : Int)) none), D.int (f : Int)] = nkD (kP (bs.drop f, f)) := by
        rw [nkD_kP, cutD_from (by omega), show ((f : Nat) : Int).toNat = f by omega, ← List.map_drop]
        rfl
      have hke := hI.key hf
      rw [hcut]
      refine ⟨le_sz (by decide), _, _, _, rd_dicT hk0, rfl, okN_kP _, ?_⟩
      rw [hasN_kP]
      refine ⟨_, rfl, ite_any (fun h2 => ?_) (fun h2 => ?_)⟩
      case refine_2 =>
        have h2 : (bs.drop f, f) ∈ L0 := by simpa using h2
        refine ⟨_, _, _, _, rd_dicT hk0, rfl, okN_kP _, lookN_kP hL0 h2, ?_⟩
        have q1 := q L0 hL0
        rw [MS.set_id hk0] at q1
        exact outK.same q1
      simp! [z_ixtB hp, pD]
      have hw1 := hw.1
      refine ⟨by omega, by omega, by omega, by omega, ?_⟩
      rw [rangeD_rng]
      let g : Int → Int := fun t => if okBd (nar P bs f t) = true then cV P.b.overs P.st (P.n - (f + 1)) (f + 1) ((nar P bs f t).drop (f + 1)) else 0
      refine forW_n (fun i ρ S' => (∃ L, KnOk P L ∧ S' = S.set P.da (knM P L)) ∧ ∃ z5 z6, ρ = [some (plX P), some (bdD bs), some (.int (f : Int)), some (nkD (kP (bs.drop f, f))), some (.int ((((rngI p.1 p.2).take i).map g).sum)), z5, z6]) (fun _ _ _ _ => trivial) (fun i d ρ S' hd h N hN => ?hs) (fun ρ S' h => ?hd) ⟨⟨L0, hL0, (MS.set_id hk0).symm⟩, _, _, rfl⟩
      case hd =>
        obtain ⟨⟨L, hL, rfl⟩, z5, z6, rfl⟩ := h
        rw [List.length_map, List.take_length, ← cV_step hI hp hlt]
        obtain ⟨L2, hL2, hm, he⟩ := put_kn hL hke
        simp! [wNPut, plX, D.obj.injEq, fs_known]
        refine ⟨_, _, MS.set_same, _, rfl, okN_kP _, hL.lt at0.ok, ?_⟩
        rw [show (D.int (cV P.b.overs P.st (P.n - f) f (bs.drop f))) = vP P (bs.drop f, f) from rfl, he, MS.set_set, rd_dicT (show (S.set P.da (knM P L2)) P.da = some (.dicT (L2.map kP) (L2.map (vP P))) from MS.set_same)]
        refine ⟨_, _, _, _, rfl, rfl, okN_kP _, lookN_kP hL2 hm, ?_⟩
        exact outK.same (q L2 hL2)
      case hs =>
        obtain ⟨⟨L, hL, rfl⟩, z5, z6, rfl⟩ := h
        obtain ⟨t, hr, rfl⟩ := map_get hd
        have htm := rngI_mem.mp (List.mem_of_getElem? hr)
        have tk : (rngI p.1 p.2).take (i + 1) = (rngI p.1 p.2).take i ++ [t] := by rw [List.take_add_one, hr]; rfl
        have fin : ∀ L2, KnOk P L2 → ∀ z5 z6, N [some (plX P), some (bdD bs), some (.int (f : Int)), some (nkD (kP (bs.drop f, f))), some (.int ((((rngI p.1 p.2).take i).map g).sum + g t)), z5, z6] (S.set P.da (knM P L2)) := fun L2 h2 z5 z6 => hN _ _ ⟨⟨L2, h2, rfl⟩, z5, z6, by rw [tk, List.map_append, List.sum_append]; simp⟩
        simp! [wMeth, plX]
        refine ⟨⟨_, _, rfl, nn⟩, P, bs, f, t, rfl, at0.ok, hI.1, hlt, ?_⟩
        unfold narD
        by_cases hok : okBd (nar P bs f t) = true
        · rw [if_pos hok]
          rw [show g t = cV P.b.overs P.st (P.n - (f + 1)) (f + 1) ((nar P bs f t).drop (f + 1)) from if_pos hok] at fin
          cases n with
          | zero => omega
          | succ m =>
          refine ite_any (fun h => absurd h Bool.false_ne_true) (fun _ => ⟨⟨_, _, rfl, nm⟩, P, nar P bs f t, f + 1, rfl, at0.to hL, hI.step hb hp htm hok, by omega, by omega, fun L2 h2 => ?_⟩)
          rw [MS.set_set]
          exact fin L2 h2 _ _
        · rw [if_neg hok]
          rw [show g t = 0 from if_neg hok] at fin
          exact ite_any (fun _ => fin L hL _ _) (fun h => absurd rfl h))
end
theorem sc_with_both : FnScope ["planner", "a", "time", "b", "other", "bounds", "layer", "here"] ["planner", "a", "time", "b", "other"] (defScope s_with_both) := ⟨rfl, rfl, rfl, by decide +kernel, rfl, by decide +kernel, by decide +kernel⟩
theorem ar_with_both : ∀ ds S Q E, sp_with_both ds S Q E → ds.length = 5 := by
  rintro ds S Q E h
  simp only [sp_with_both] at h
  obtain ⟨_, h⟩ := h
  repeat (first | (obtain ⟨rfl, _⟩ := h; rfl) | (obtain ⟨_, h⟩ := h))
section
variable {P : Program} {w : World} {K : PySem.W.Frag} {mg : Str → Option Value} {base : Heap}
theorem O_with_both (A : Al K mg) {f : Addr} {fd : FuncData} (Fu : FunD K "with_both" "with_both" (defArgs s_with_both) (defBody s_with_both) (defScope s_with_both) [] [] f fd) : FnG P w K mg base CX0 11 f fd ["planner", "a", "time", "b", "other"] (spD K sp_with_both) := by
  refine fn_d Fu sc_with_both ar_with_both (fun cdv A0 outer s0 H0 E0' hr => ⟨_, _,
      (db_cons (ds_set 5 sc_with_both.nd (de_ct (call_tupleK K) roc_tuple rfl A.b_tuple (by decide +kernel) (da_cons (de_fld K A.cls_Planner A.na_Planner_bounds (de_var 0)) da_nil)))
      (db_cons (ds_for (vs := [6, 7]) PassesOwn.never rfl (di_seqK K (de_tup (da_cons (de_tup (da_cons (de_var 1) (da_cons (de_var 2) da_nil))) (da_cons (de_tup (da_cons (de_var 3) (da_cons (de_var 4) da_nil))) da_nil)))) (dg_tupK K (n := 2) rfl (dgs_cons (dg_name (vs := [6, 7]) 6 (by decide) sc_with_both.nd) (dgs_cons (dg_name (vs := [6, 7]) 7 (by decide) sc_with_both.nd) dgs_nil)))
        (db_cons (ds_if (dt_w (dw_and (dt_cmp op_notN ro_notN (de_var 5) de_non (nomark _)) (dw_and1 (dt_not (dt_ch op_le op_le ro_IB ro_IB (de_ixK K (de_ixK K (de_var 5) (de_var 6)) de_int) (de_var 7) (de_ixK K (de_ixK K (de_var 5) (de_var 6)) de_int))))))
          (db_one (ds_set 5 sc_with_both.nd de_non))
          db_nil)
        (db_one (ds_set 5 sc_with_both.nd (de_if (dt_cmp op_isN ro_isN (de_var 5) de_non (nomark _)) de_non (de_meth A.cls_Planner A.m_Planner_narrowed (D_Planner_narrowed A) (hr.mono (by omega)) pass0 (de_var 0) (da_cons (de_var 5) (da_cons (de_var 6) (da_cons (de_var 7) da_nil)))))))))
      (db_one (ds_ret (de_if (dt_cmp op_isN ro_isN (de_var 5) de_non (nomark _)) de_int (de_meth A.cls_Planner A.m_Planner_many (D_Planner_many A 8) (hr.mono (by omega)) pass0 (de_var 0) (da_cons (de_var 5) (da_cons de_int da_nil)))))))),
      ?_⟩)
  all_goals (
    rintro ds S Q Ed ⟨P, l, k, t, u, rfl, at0, hl, hk, hne, q⟩
    have ok := at0.ok
    obtain ⟨⟨hb, hc4, ho⟩, hw⟩ := ok
    obtain ⟨L0, hL0, hk0⟩ := at0.kn
    have hcn : (P.n : Int) = P.b.count := by unfold Pl.n; have := hb.1; omega
    have nm : ("many" : Str) ∉ plN := by decide
    have nn : ("narrowed" : Str) ∉ plN := by decide
    have hlen : (baseB P.b P.w).length = P.n := base_len at0.ok
    have hB := ev_base hne
    have hn7 : P.n - 0 ≤ 7 := by omega
    simp! [plX, D.obj.injEq, fs_bounds, rd_ref at0.bd, wPar]
    refine ⟨le_sz (by decide), le_sz (by decide), le_sz (by decide), ?_⟩
    let oI : Nat → Option Bd := fun i => match i with
      | 0 => some (baseB P.b P.w)
      | 1 => stB P (some (baseB P.b P.w)) l t
      | _ => stB P (stB P (some (baseB P.b P.w)) l t) k u
    have g0 : goodO P (some (baseB P.b P.w)) := fun bs e => by cases e; exact ⟨Inv_base at0.ok hB, fun s h => h⟩
    refine forW_n (fun i ρ S' => S' = S ∧ ∃ z6 z7, ρ = [some (plX P), some (.int (l : Int)), some (.int t), some (.int (k : Int)), some (.int u), some (obD (oI i)), z6, z7]) (fun _ _ _ _ => trivial) (fun i d ρ S' hd h N hN => ?hs) (fun ρ S' h => ?hd) ⟨rfl, _, _, rfl⟩
    case hd =>
      obtain ⟨rfl, z6, z7, rfl⟩ := h
      have e2 : cnt2 P.b P.w P.ws l k t u = ((inO P (oI 2)).length : Int) := by
        show _ = ((inO P (stB P (stB P (some (baseB P.b P.w)) l t) k u)).length : Int)
        rw [inO_st at0.ok (goodO_st g0) hk, inO_st at0.ok g0 hl]
        show _ = (((List.filter _ (inL P (baseB P.b P.w))).filter _).length : Int)
        rw [inL_base, List.filter_filter]
        unfold cnt2
        congr 2
        exact List.filter_congr fun r _ => Bool.and_comm _ _
      have g2 : goodO P (oI 2) := goodO_st (goodO_st g0)
      have hle : List.length [D.tup [D.int (l : Int), D.int t], D.tup [D.int (k : Int), D.int u]] = 2 := rfl
      rw [hle]
      rw [e2] at q
      cases e : oI 2 with
      | none =>
        rw [e] at q
        have q1 := q L0 hL0
        rw [MS.set_id hk0] at q1
        simp! [obD]
        exact outK.same q1
      | some bs =>
        rw [e] at q
        have h2 := g2 bs e
        simp! [obD, wMeth]
        refine ⟨⟨_, _, rfl, nm⟩, P, bs, 0, rfl, at0, h2.1, Nat.zero_le _, hn7, fun L hL => ?_⟩
        have q1 := q L hL
        rw [show ((inO P (some bs)).length : Int) = cV P.b.overs P.st (P.n - 0) 0 (bs.drop 0) from (cV_len at0.ok P.n (Nat.sub_zero _) (Nat.zero_le _) h2.1 h2.2).symm] at q1
        exact outK.same q1
    case hs =>
      obtain ⟨rfl, z6, z7, rfl⟩ := h
      obtain ⟨li, ti, rfl, hli, hg, hst⟩ : ∃ (li : Nat) (ti : Int), d = .tup [.int (li : Int), .int ti] ∧ li < P.n ∧ goodO P (oI i) ∧ oI (i + 1) = stB P (oI i) li ti := by
        match i, hd with
        | 0, hd => cases hd; exact ⟨l, t, rfl, hl, g0, rfl⟩
        | 1, hd => cases hd; exact ⟨k, u, rfl, hk, goodO_st g0, rfl⟩
      have fin := fun z6 z7 => hN [some (plX P), some (.int (l : Int)), some (.int t), some (.int (k : Int)), some (.int u), some (obD (oI (i + 1))), z6, z7] S' ⟨rfl, _, _, rfl⟩
      rw [hst] at fin
      generalize oI i = o at fin hg ⊢
      cases o with
      | none =>
        simp! [obD]
        exact fin _ _
      | some bs =>
        have h2 := hg bs rfl
        have hlb : li < bs.length := by rw [h2.1.1]; exact hli
        obtain ⟨p, hp⟩ : ∃ p, bs[li]? = some p := ⟨_, List.getElem?_eq_getElem hlb⟩
        simp! [obD, bdD, z_ixtB hp, pD]
        have out : ∀ z6 z7, ¬ (p.1 ≤ ti ∧ ti ≤ p.2) → N [some (plX P), some (.int (l : Int)), some (.int t), some (.int (k : Int)), some (.int u), some D.non, z6, z7] S' := fun z6 z7 h => by
          have f := fin z6 z7
          rw [show stB P (some bs) li ti = none from by unfold stB; dsimp only; rw [hp]; exact if_neg fun z => h ⟨z.1, z.2.1⟩] at f
          exact f
        refine ite_any (fun h1 => ite_any (fun h3 => out _ _ fun z => ?_) (fun h3 => ?_)) (fun h1 => out _ _ fun z => h1 (decide_eq_true z.1))
        · simp at h3
          omega
        have h1 := of_decide_eq_true h1
        have h3 : ti ≤ p.2 := by simpa using h3
        refine ⟨⟨_, _, rfl, nn⟩, P, bs, li, ti, rfl, at0.ok, h2.1.1, hli, ?_⟩
        have f := fin (some (.int (li : Int))) (some (.int ti))
        have e9 : obD (stB P (some bs) li ti) = narD P bs li ti := by
          unfold stB narD
          dsimp only
          rw [hp]
          dsimp only
          by_cases c : okBd (nar P bs li ti) = true
          · rw [if_pos c, if_pos ⟨h1, h3, c⟩]; rfl
          · rw [if_neg c, if_neg fun z => c z.2.2]; rfl
        rw [e9] at f
        exact f)
theorem D_with_both (A : Al K mg) : Def P w K mg base CX0 11 "with_both" ["planner", "a", "time", "b", "other"] sp_with_both := by
  obtain ⟨f, fd, Fu, hm, hb⟩ := fu_with_both A
  exact ⟨f, fd, O_with_both A Fu, hm, Fu.kp, hb⟩
end
theorem sc_Planner_whole : FnScope ["self", "begin", "low", "high"] ["self"] (defScope s_Planner_whole) := ⟨rfl, rfl, rfl, by decide +kernel, rfl, by decide +kernel, by decide +kernel⟩
theorem ar_Planner_whole : ∀ ds S Q E, sp_Planner_whole ds S Q E → ds.length = 1 := by
  rintro ds S Q E h
  simp only [sp_Planner_whole] at h
  obtain ⟨_, h⟩ := h
  repeat (first | (obtain ⟨rfl, _⟩ := h; rfl) | (obtain ⟨_, h⟩ := h))
section
variable {P : Program} {w : World} {K : PySem.W.Frag} {mg : Str → Option Value} {base : Heap}
theorem O_Planner_whole (A : Al K mg) {f : Addr} {fd : FuncData} (Fu : FunD K "whole" "Planner.whole" (defArgs s_Planner_whole) (defBody s_Planner_whole) (defScope s_Planner_whole) [] [] f fd) : FnG P w K mg base CX0 11 f fd ["self"] (spD K sp_Planner_whole) := by
  refine fn_d Fu sc_Planner_whole ar_Planner_whole (fun cdv A0 outer s0 H0 E0' hr => ⟨_, _,
      (db_cons (ds_set 1 sc_Planner_whole.nd (de_ct (call_tupleK K) roc_tuple rfl A.b_tuple (by decide +kernel) (da_cons (de_fld K A.cls_Planner A.na_Planner_bounds (de_var 0)) da_nil)))
      (db_one (ds_ret (de_if (dt_val (de_cb (cr_allK K rfl) roc_all rfl A.b_all (by decide +kernel) (da_cons (de_lc false [("low", 2), ("high", 3)] rfl sc_Planner_whole.nd (di_seqK K (de_var 1)) (blkOk_by (by kernel_rfl)) (fun _ _ _ _ _ => (dg_tupK K (n := 2) rfl (dgs_cons (dg_name (vs := [2, 3]) 2 (by decide) sc_Planner_whole.nd) (dgs_cons (dg_name (vs := [2, 3]) 3 (by decide) sc_Planner_whole.nd) dgs_nil)))) (fun _ _ _ _ _ => dts_nil) (fun _ _ _ _ _ => (de_cmp op_le ro_IB (de_var 2) (de_var 3) (nomark _)))) da_nil))) (de_meth A.cls_Planner A.m_Planner_many (D_Planner_many A 8) (hr.mono (by omega)) pass0 (de_var 0) (da_cons (de_var 1) (da_cons de_int da_nil))) de_int)))),
      ?_⟩)
  all_goals (
    rintro ds S Q Ed ⟨P, rfl, at0, q⟩
    replace q : PlTo S P (Q (.int (if okBd (baseB P.b P.w) = true then cV P.b.overs P.st P.n 0 (baseB P.b P.w) else 0))) := by
      rw [← whV_len at0.ok.1 at0.ok.2] at q
      exact q
    have ok := at0.ok
    obtain ⟨⟨hb, hc4, ho⟩, hw⟩ := ok
    obtain ⟨L0, hL0, hk0⟩ := at0.kn
    have hcn : (P.n : Int) = P.b.count := by unfold Pl.n; have := hb.1; omega
    have nm : ("many" : Str) ∉ plN := by decide
    have hlen : (baseB P.b P.w).length = P.n := by unfold baseB; rw [List.length_map]; have := hb.2.2.1.1; omega
    simp! [plX, D.obj.injEq, fs_bounds, rd_ref at0.bd]
    refine compAllM (fun p : Int × Int => decide (p.1 ≤ p.2)) noG_any (le_sz (by omega)) (fun p hp S2 sub N hN => ?_) ?_
    · simp! [pD]
      exact hN
    refine ⟨_, rfl, ite_any (fun h => ?_) (fun h => ?_)⟩
    · refine ⟨nm, P, baseB P.b P.w, 0, rfl, at0, Inv_base at0.ok h, Nat.zero_le _, (show P.n - 0 ≤ 7 by omega), fun L hL => ?_⟩
      have q1 := q L hL
      rw [if_pos (show okBd (baseB P.b P.w) = true from h)] at q1
      exact outK.same q1
    · have q1 := q L0 hL0
      rw [if_neg (show ¬ okBd (baseB P.b P.w) = true from h), MS.set_id hk0] at q1
      exact outK.same q1)
theorem D_Planner_whole (A : Al K mg) : DefM P w K mg base CX0 11 (He.ma K (He.ga K "Planner") "whole") ["self"] sp_Planner_whole := by
  obtain ⟨fd, Fu, hb⟩ := fu_Planner_whole A
  exact ⟨fd, O_Planner_whole A Fu, hb⟩
end
theorem sc_Planner_at : FnScope ["self", "number", "bounds", "layer", "time", "later", "count", "low", "high"] ["self", "number"] (defScope s_Planner_at) := ⟨rfl, rfl, rfl, by decide +kernel, rfl, by decide +kernel, by decide +kernel⟩
theorem ar_Planner_at : ∀ ds S Q E, sp_Planner_at ds S Q E → ds.length = 2 := by
  rintro ds S Q E h
  simp only [sp_Planner_at] at h
  obtain ⟨_, h⟩ := h
  repeat (first | (obtain ⟨rfl, _⟩ := h; rfl) | (obtain ⟨_, h⟩ := h))
section
variable {P : Program} {w : World} {K : PySem.W.Frag} {mg : Str → Option Value} {base : Heap}
theorem O_Planner_at (A : Al K mg) {f : Addr} {fd : FuncData} (Fu : FunD K "at" "Planner.at" (defArgs s_Planner_at) (defBody s_Planner_at) (defScope s_Planner_at) [] [] f fd) : FnG P w K mg base CX0 11 f fd ["self", "number"] (spD K sp_Planner_at) := by
  refine fn_d Fu sc_Planner_at ar_Planner_at (fun cdv A0 outer s0 H0 E0' hr => ⟨_, _,
      (db_cons (ds_set 2 sc_Planner_at.nd (de_ct (call_tupleK K) roc_tuple rfl A.b_tuple (by decide +kernel) (da_cons (de_fld K A.cls_Planner A.na_Planner_bounds (de_var 0)) da_nil)))
      (db_cons (ds_for (vs := [3]) PassesOwn.never rfl (di_range1 rfl A.b_range (da_cons (de_fld K A.cls_Book A.na_Book_count (de_fld K A.cls_Planner A.na_Planner_book (de_var 0))) da_nil)) (dg_name (vs := [3]) 3 (by decide) sc_Planner_at.nd)
        (db_cons (ds_par3 4 5 6 rfl sc_Planner_at.nd (by decide) (by decide) (by decide) (da_cons (de_op op_sub ro_I0 (de_ixK K (de_ixK K (de_var 2) (de_var 3)) de_int) de_int) (da_cons de_non (da_cons de_int da_nil))))
        (db_cons (ds_while PassesOwn.never (dt_cmp op_ge ro_IB (de_var 1) (de_var 6) (nomark _))
          (db_cons (ds_set 1 sc_Planner_at.nd (de_op op_sub ro_I0 (de_var 1) (de_var 6)))
          (db_cons (ds_set 4 sc_Planner_at.nd (de_op (op_addK K) (ro_add false) (de_var 4) de_int))
          (db_cons (ds_set 5 sc_Planner_at.nd (de_meth A.cls_Planner A.m_Planner_narrowed (D_Planner_narrowed A) (hr.mono (by omega)) pass0 (de_var 0) (da_cons (de_var 2) (da_cons (de_var 3) (da_cons (de_var 4) da_nil)))))
          (db_one (ds_set 6 sc_Planner_at.nd (de_if (dt_cmp op_isN ro_isN (de_var 5) de_non (nomark _)) de_int (de_meth A.cls_Planner A.m_Planner_many (D_Planner_many A 8) (hr.mono (by omega)) pass0 (de_var 0) (da_cons (de_var 5) (da_cons (de_op (op_addK K) (ro_add false) (de_var 3) de_int) da_nil))))))))))
        (db_one (ds_set 2 sc_Planner_at.nd (de_var 5))))))
      (db_one (ds_ret (de_ct (call_tupleK K) roc_tuple rfl A.b_tuple (by decide +kernel) (da_cons (de_lc false [("low", 7), ("high", 8)] rfl sc_Planner_at.nd (di_seqK K (de_var 2)) (blkOk_by (by kernel_rfl)) (fun _ _ _ _ _ => (dg_tupK K (n := 2) rfl (dgs_cons (dg_name (vs := [7, 8]) 7 (by decide) sc_Planner_at.nd) (dgs_cons (dg_name (vs := [7, 8]) 8 (by decide) sc_Planner_at.nd) dgs_nil)))) (fun _ _ _ _ _ => dts_nil) (fun _ _ _ _ _ => (de_var 7))) da_nil)))))),
      ?_⟩)
  all_goals (
    rintro ds S Q Ed ⟨P, m, x, rfl, at0, hx, q⟩
    have ok := at0.ok
    obtain ⟨⟨hb, hc4, ho⟩, hw⟩ := ok
    obtain ⟨L0, hL0, hk0⟩ := at0.kn
    have hcn : (P.n : Int) = P.b.count := by unfold Pl.n; have := hb.1; omega
    have nm : ("many" : Str) ∉ plN := by decide
    have nn : ("narrowed" : Str) ∉ plN := by decide
    have hlen : (baseB P.b P.w).length = P.n := base_len at0.ok
    have hne : 0 < (evL P.b P.w P.ws).length := by have := (List.getElem?_eq_some_iff.mp hx).1; omega
    have hB := ev_base hne
    simp! [plX, D.obj.injEq, fs_bounds, rd_ref at0.bd, fs_book, bkV, f_count]
    refine ⟨by omega, by omega, ?_⟩
    refine forW_n (fun i ρ S' => (∃ L, KnOk P L ∧ S' = S.set P.da (knM P L)) ∧ ∃ (bs : Bd) (m1 : Nat) (z3 z4 z5 z6 : Option D), Inv P bs i ∧ (∀ s, inB bs s = true → inB (baseB P.b P.w) s = true) ∧ (inL P bs)[m1]? = some x ∧ ρ = [some (plX P), some (.int (m1 : Int)), some (bdD bs), z3, z4, z5, z6, none, none]) (fun _ _ _ _ => trivial) (fun i d ρ S' hd h N hN => ?hs) (fun ρ S' h => ?hd) ⟨⟨L0, hL0, (MS.set_id hk0).symm⟩, baseB P.b P.w, m, none, none, none, none, Inv_base at0.ok hB, fun s h => h, by rw [inL_base]; exact hx, rfl⟩
    case hd =>
      obtain ⟨⟨L, hL, rfl⟩, bs, m1, z3, z4, z5, z6, hI, hin, hg, rfl⟩ := h
      rw [rangeD_length] at hI
      have hI : Inv P bs P.n := hI
      rw [inL_one at0.ok hI hin] at hg
      have hx1 : x = bs.map (·.1) := by
        cases m1 with
        | zero => rw [List.getElem?_cons_zero, Option.some.injEq] at hg; exact hg.symm
        | succ _ => cases hg
      subst hx1
      simp! [bdD]
      refine compL_mm (fun p : Int × Int => D.int p.1) noG_any (le_sz (by have := hI.1; omega)) (fun p hp S2 sub N hN => ?_) ?_
      · simp! [pD]
        exact hN
      have q1 := q L hL
      simp! []
      rw [show tupI (bs.map (·.1)) = D.tup (bs.map fun p => D.int p.1) from by unfold tupI; rw [List.map_map]; rfl] at q1
      exact outK.same q1
    case hs =>
      obtain ⟨⟨L, hL, rfl⟩, bs, m1, z3, z4, z5, z6, hI, hin, hg, rfl⟩ := h
      have hi : i < P.n := by have := (List.getElem?_eq_some_iff.mp hd).1; rw [rangeD_length] at this; exact this
      have hd := Option.some.inj ((rangeD_get (lo := 0) hi).symm.trans hd)
      rw [Int.zero_add] at hd
      subst hd
      obtain ⟨p, hp⟩ : ∃ p, bs[i]? = some p := ⟨_, List.getElem?_eq_getElem (by rw [hI.1]; exact hi)⟩
      simp! [bdD, wPar3, z_ixtB hp, pD]
      refine ⟨fun n ρ S' => ∃ k : Nat, n = (rngI p.1 p.2).length - k ∧ k ≤ (rngI p.1 p.2).length ∧ (∃ L, KnOk P L ∧ S' = S.set P.da (knM P L)) ∧ ∃ (num cnt tm : Int) (later : D), tm = p.1 - 1 + (k : Int) ∧ ((k = 0 ∧ num = m1 ∧ cnt = 0) ∨ ∃ k0 t, k = k0 + 1 ∧ (rngI p.1 p.2)[k0]? = some t ∧ partU P bs i p k0 ≤ m1 ∧ num = m1 - partU P bs i p k0 ∧ cnt = (inL P (nar P bs i t)).length ∧ later = narD P bs i t) ∧
        ρ = [some (plX P), some (.int num), some (bdD bs), some (.int (i : Int)), some (.int tm), some later, some (.int cnt), none, none], ⟨_, 0, rfl, Nat.zero_le _, ⟨L, hL, rfl⟩, _, _, _, _, by omega, .inl ⟨rfl, rfl, rfl⟩, rfl⟩, fun n ρ S' h => ?_⟩
      obtain ⟨k, rfl, hk, ⟨L2, hL2, rfl⟩, num, cnt, tm, later, htm, hst, rfl⟩ := h
      simp! []
      refine ite_any (fun hge => ?_) (fun hlt => ?_)
      · have hge : cnt ≤ num := of_decide_eq_true hge
        have hnum : num - cnt = (m1 : Int) - partU P bs i p k := by
          rcases hst with ⟨rfl, rfl, rfl⟩ | ⟨k0, t, rfl, ht, h1, rfl, rfl, rfl⟩
          · simp [partU]
          · rw [partU_succ ht]; omega
        have hU : partU P bs i p k ≤ m1 := by omega
        have hk2 : k < (rngI p.1 p.2).length := by
          refine Nat.lt_of_le_of_ne hk fun e => ?_
          rw [e, partU_all hI hp hi hb] at hU
          have := (List.getElem?_eq_some_iff.mp hg).1
          omega
        have hkt : (rngI p.1 p.2)[k]? = some (p.1 + k) := rngI_get (by rw [rngI_len] at hk2; exact hk2)
        have et : tm + 1 = p.1 + k := by omega
        have htm := rngI_mem.mp (List.mem_of_getElem? hkt)
        rw [hnum]
        simp! [wMeth, plX]
        rw [et]
        refine ⟨⟨_, _, rfl, nn⟩, P, bs, i, p.1 + k, rfl, at0.ok, hI.1, hi, ?_⟩
        by_cases hok : okBd (nar P bs i (p.1 + k)) = true
        · rw [show narD P bs i (p.1 + k) = bdD (nar P bs i (p.1 + k)) from if_pos hok]
          refine ite_any (fun h => absurd h Bool.false_ne_true) (fun _ => ⟨⟨_, _, rfl, nm⟩, P, nar P bs i (p.1 + k), i + 1, rfl, at0.to hL2, hI.step hb hp htm hok, hi, (show P.n - (i + 1) ≤ 7 by omega), fun L3 hL3 => ?_⟩)
          rw [MS.set_set]
          exact ⟨_, by omega, k + 1, rfl, hk2, ⟨L3, hL3, rfl⟩, _, _, _, .inr ⟨k, rfl, _, hkt, hU, rfl, rfl, rfl⟩, rfl, by omega, (if_pos hok).symm, congrArg D.int (cV_len at0.ok _ rfl hi (hI.step hb hp htm hok) fun s hs => hin s (in_nar hs))⟩
        · rw [show narD P bs i (p.1 + k) = .non from if_neg hok]
          refine ite_any (fun _ => ⟨_, by omega, k + 1, rfl, hk2, ⟨L2, hL2, rfl⟩, _, _, _, .inr ⟨k, rfl, _, hkt, hU, rfl, rfl, rfl⟩, rfl, by omega, (if_neg hok).symm, by rw [inL_none hok]; rfl⟩) (fun h => absurd rfl h)
      · have hlt : ¬ cnt ≤ num := fun h => hlt (decide_eq_true h)
        rcases hst with ⟨rfl, rfl, rfl⟩ | ⟨k0, t, rfl, ht, h1, rfl, rfl, rfl⟩
        · omega
        · have h2 : m1 < partU P bs i p (k0 + 1) := by rw [partU_succ ht]; omega
          have hg2 := part_get hI hp hi hb ht h1 h2
          rw [hg] at hg2
          have hpos : okBd (nar P bs i t) = true := Classical.byContradiction fun h => by
            rw [inL_none h] at hg2
            cases hg2
          have htm := rngI_mem.mp (List.mem_of_getElem? ht)
          unfold narD
          rw [if_pos hpos, show ((m1 : Int) - (partU P bs i p k0 : Int)) = ((m1 - partU P bs i p k0 : Nat) : Int) by omega]
          exact hN _ _ ⟨⟨L2, hL2, rfl⟩, nar P bs i t, m1 - partU P bs i p k0, _, _, _, _, hI.step hb hp htm hpos, fun s hs => hin s (in_nar hs), hg2.symm, rfl⟩)
theorem D_Planner_at (A : Al K mg) : DefM P w K mg base CX0 11 (He.ma K (He.ga K "Planner") "at") ["self", "number"] sp_Planner_at := by
  obtain ⟨fd, Fu, hb⟩ := fu_Planner_at A
  exact ⟨fd, O_Planner_at A Fu, hb⟩
end
theorem sc_Planner_with_time : FnScope ["self", "layer", "time", "begin", "later", "low", "high"] ["self", "layer", "time"] (defScope s_Planner_with_time) := ⟨rfl, rfl, rfl, by decide +kernel, rfl, by decide +kernel, by decide +kernel⟩
theorem ar_Planner_with_time : ∀ ds S Q E, sp_Planner_with_time ds S Q E → ds.length = 3 := by
  rintro ds S Q E h
  simp only [sp_Planner_with_time] at h
  obtain ⟨_, h⟩ := h
  repeat (first | (obtain ⟨rfl, _⟩ := h; rfl) | (obtain ⟨_, h⟩ := h))
section
variable {P : Program} {w : World} {K : PySem.W.Frag} {mg : Str → Option Value} {base : Heap}
theorem O_Planner_with_time (A : Al K mg) {f : Addr} {fd : FuncData} (Fu : FunD K "with_time" "Planner.with_time" (defArgs s_Planner_with_time) (defBody s_Planner_with_time) (defScope s_Planner_with_time) [] [] f fd) : FnG P w K mg base CX0 11 f fd ["self", "layer", "time"] (spD K sp_Planner_with_time) := by
  refine fn_d Fu sc_Planner_with_time ar_Planner_with_time (fun cdv A0 outer s0 H0 E0' hr => ⟨_, _,
      (db_cons (ds_set 3 sc_Planner_with_time.nd (de_ct (call_tupleK K) roc_tuple rfl A.b_tuple (by decide +kernel) (da_cons (de_fld K A.cls_Planner A.na_Planner_bounds (de_var 0)) da_nil)))
      (db_cons (ds_if (dt_w (dw_or (dt_not (dt_val (de_cb (cr_allK K rfl) roc_all rfl A.b_all (by decide +kernel) (da_cons (de_lc false [("low", 5), ("high", 6)] rfl sc_Planner_with_time.nd (di_seqK K (de_var 3)) (blkOk_by (by kernel_rfl)) (fun _ _ _ _ _ => (dg_tupK K (n := 2) rfl (dgs_cons (dg_name (vs := [5, 6]) 5 (by decide) sc_Planner_with_time.nd) (dgs_cons (dg_name (vs := [5, 6]) 6 (by decide) sc_Planner_with_time.nd) dgs_nil)))) (fun _ _ _ _ _ => dts_nil) (fun _ _ _ _ _ => (de_cmp op_le ro_IB (de_var 5) (de_var 6) (nomark _)))) da_nil)))) (dw_or1 (dt_not (dt_ch op_le op_le ro_IB ro_IB (de_ixK K (de_ixK K (de_var 3) (de_var 1)) de_int) (de_var 2) (de_ixK K (de_ixK K (de_var 3) (de_var 1)) de_int))))))
        (db_one (ds_ret de_int))
        db_nil)
      (db_cons (ds_set 4 sc_Planner_with_time.nd (de_meth A.cls_Planner A.m_Planner_narrowed (D_Planner_narrowed A) (hr.mono (by omega)) pass0 (de_var 0) (da_cons (de_var 3) (da_cons (de_var 1) (da_cons (de_var 2) da_nil)))))
      (db_one (ds_ret (de_if (dt_cmp op_isN ro_isN (de_var 4) de_non (nomark _)) de_int (de_meth A.cls_Planner A.m_Planner_many (D_Planner_many A 8) (hr.mono (by omega)) pass0 (de_var 0) (da_cons (de_var 4) (da_cons de_int da_nil))))))))),
      ?_⟩)
  all_goals (
    rintro ds S Q Ed ⟨P, l, t, rfl, at0, hl, q⟩
    replace q : PlTo S P (Q (.int (wtV P l t))) := by
      rw [wtV_len at0.ok hl t]
      exact q
    have ok := at0.ok
    obtain ⟨⟨hb, hc4, ho⟩, hw⟩ := ok
    obtain ⟨L0, hL0, hk0⟩ := at0.kn
    have hcn : (P.n : Int) = P.b.count := by unfold Pl.n; have := hb.1; omega
    have nm : ("many" : Str) ∉ plN := by decide
    have nn : ("narrowed" : Str) ∉ plN := by decide
    have hlen : (baseB P.b P.w).length = P.n := by unfold baseB; rw [List.length_map]; have := hb.2.2.1.1; omega
    obtain ⟨p, hp⟩ : ∃ p, (baseB P.b P.w)[l]? = some p := ⟨_, List.getElem?_eq_getElem (by rw [hlen]; exact hl)⟩
    have q0 : ∀ v, wtV P l t = v → Q (.int v) S := fun v e => by
      have q1 := q L0 hL0
      rw [MS.set_id hk0, e] at q1
      exact q1
    simp! [plX, D.obj.injEq, fs_bounds, rd_ref at0.bd]
    refine compAllM (fun p : Int × Int => decide (p.1 ≤ p.2)) noG_any (le_sz (by omega)) (fun p hp S2 sub N hN => ?_) ?_
    · simp! [pD]
      exact hN
    simp! [z_ixtB hp, pD]
    by_cases hB : okBd (baseB P.b P.w) = true
    case neg =>
      rw [if_pos (by rw [show (List.all (baseB P.b P.w) fun p => decide (p.1 ≤ p.2)) = false from by simpa [okBd] using hB]; rfl)]
      exact outK.same (q0 0 (by unfold wtV; rw [hp]; exact if_neg fun z => hB z.1))
    rw [if_neg (by rw [show (List.all (baseB P.b P.w) fun p => decide (p.1 ≤ p.2)) = true from hB]; exact Bool.false_ne_true)]
    refine ite_any (fun h1 => ite_any (fun h2 => ?_) (fun h2 => ?_)) (fun h1 => ?_)
    · refine outK.same (q0 0 (by unfold wtV; rw [hp]; exact if_neg fun z => absurd z.2.2.1 (by simpa using h2)))
    · have h1 := of_decide_eq_true h1
      have h2 : t ≤ p.2 := by simpa using h2
      refine ⟨nn, P, baseB P.b P.w, l, t, rfl, at0.ok, hlen, hl, ?_⟩
      unfold narD
      by_cases hok : okBd (nar P (baseB P.b P.w) l t) = true
      · rw [if_pos hok]
        refine ite_any (fun h => absurd h Bool.false_ne_true) (fun _ => ⟨nm, P, nar P (baseB P.b P.w) l t, 0, rfl, at0, (Inv_base at0.ok hB).nar0 hok, Nat.zero_le _, (show P.n - 0 ≤ 7 by omega), fun L hL => ?_⟩)
        have q1 := q L hL
        rw [show wtV P l t = cV P.b.overs P.st P.n 0 (nar P (baseB P.b P.w) l t) from by unfold wtV; rw [hp]; exact if_pos ⟨hB, h1, h2, hok⟩] at q1
        exact outK.same q1
      · rw [if_neg hok]
        exact ite_any (fun _ => outK.same (q0 0 (by unfold wtV; rw [hp]; exact if_neg fun z => hok z.2.2.2))) (fun h => absurd rfl h)
    · refine outK.same (q0 0 (by unfold wtV; rw [hp]; exact if_neg fun z => h1 (decide_eq_true z.2.1))))
theorem D_Planner_with_time (A : Al K mg) : DefM P w K mg base CX0 11 (He.ma K (He.ga K "Planner") "with_time") ["self", "layer", "time"] sp_Planner_with_time := by
  obtain ⟨fd, Fu, hb⟩ := fu_Planner_with_time A
  exact ⟨fd, O_Planner_with_time A Fu, hb⟩
end
theorem sc_many_plans : FnScope ["book", "window", "strict"] ["book", "window", "strict"] (defScope s_many_plans) := ⟨rfl, rfl, rfl, by decide +kernel, rfl, by decide +kernel, by decide +kernel⟩
theorem ar_many_plans : ∀ ds S Q E, sp_many_plans ds S Q E → ds.length = 3 := by
  rintro ds S Q E h
  simp only [sp_many_plans] at h
  obtain ⟨_, h⟩ := h
  repeat (first | (obtain ⟨rfl, _⟩ := h; rfl) | (obtain ⟨_, h⟩ := h))
section
variable {P : Program} {w : World} {K : PySem.W.Frag} {mg : Str → Option Value} {base : Heap}
theorem O_many_plans (A : Al K mg) {f : Addr} {fd : FuncData} (Fu : FunD K "many_plans" "many_plans" (defArgs s_many_plans) (defBody s_many_plans) (defScope s_many_plans) [] [] f fd) : FnG P w K mg base CX0 12 f fd ["book", "window", "strict"] (spD K sp_many_plans) := by
  refine fn_d Fu sc_many_plans ar_many_plans (fun cdv A0 outer s0 H0 E0' hr => ⟨_, _,
      (db_cons (ds_expr (de_callK (D_check_window A) (hr.mono (by omega)) pass0 rfl (da_cons (de_var 1) (da_cons (de_var 2) da_nil))))
      (db_cons (ds_expr (de_callK (D_check_small A) (hr.mono (by omega)) pass0 rfl (da_cons (de_var 0) da_nil)))
      (db_one (ds_ret (de_meth0 A.cls_Planner A.m_Planner_whole (D_Planner_whole A) (hr.mono (by omega)) pass0 (de_make false A.mk_Planner (D_Planner___init__ A) (hr.mono (by omega)) pass0 rfl A.g_Planner (da_cons (de_var 0) (da_cons (de_var 1) (da_cons (de_var 2) da_nil))))))))),
      ?_⟩)
  all_goals (
    rintro ds S Q Ed ⟨b, lk, w, s, rfl, hb, hw, q⟩
    have nw : ("whole" : Str) ∉ plN := by decide
    simp! [sp_check_window, sp_check_small, wMake]
    refine ⟨w, rfl, hw, b, lk, rfl, hb.2.1, fun a ha => make_pl ha hb hw fun la da S3 sub hla hda at3 => ⟨⟨_, _, rfl, nw⟩, _, rfl, at3, fun L hL => ?_⟩⟩
    exact outK.mk (sub.set2 hda) q)
theorem D_many_plans (A : Al K mg) : Def P w K mg base CX0 12 "many_plans" ["book", "window", "strict"] sp_many_plans := by
  obtain ⟨f, fd, Fu, hm, hb⟩ := fu_many_plans A
  exact ⟨f, fd, O_many_plans A Fu, hm, Fu.kp, hb⟩
end
theorem sc_plan_at : FnScope ["book", "window", "strict", "number", "planner"] ["book", "window", "strict", "number"] (defScope s_plan_at) := ⟨rfl, rfl, rfl, by decide +kernel, rfl, by decide +kernel, by decide +kernel⟩
theorem ar_plan_at : ∀ ds S Q E, sp_plan_at ds S Q E → ds.length = 4 := by
  rintro ds S Q E h
  simp only [sp_plan_at] at h
  obtain ⟨_, h⟩ := h
  repeat (first | (obtain ⟨rfl, _⟩ := h; rfl) | (obtain ⟨_, h⟩ := h))
section
variable {P : Program} {w : World} {K : PySem.W.Frag} {mg : Str → Option Value} {base : Heap}
theorem O_plan_at (A : Al K mg) {f : Addr} {fd : FuncData} (Fu : FunD K "plan_at" "plan_at" (defArgs s_plan_at) (defBody s_plan_at) (defScope s_plan_at) [] [] f fd) : FnG P w K mg base CX0 12 f fd ["book", "window", "strict", "number"] (spD K sp_plan_at) := by
  refine fn_d Fu sc_plan_at ar_plan_at (fun cdv A0 outer s0 H0 E0' hr => ⟨_, _,
      (db_cons (ds_expr (de_callK (D_check_window A) (hr.mono (by omega)) pass0 rfl (da_cons (de_var 1) (da_cons (de_var 2) da_nil))))
      (db_cons (ds_if (dt_not (dt_val (de_callK (D_is_number A) (hr.mono (by omega)) pass0 rfl (da_cons (de_var 3) da_nil))))
        (db_one ds_never)
        db_nil)
      (db_cons (ds_expr (de_callK (D_check_small A) (hr.mono (by omega)) pass0 rfl (da_cons (de_var 0) da_nil)))
      (db_cons (ds_set 4 sc_plan_at.nd (de_make false A.mk_Planner (D_Planner___init__ A) (hr.mono (by omega)) pass0 rfl A.g_Planner (da_cons (de_var 0) (da_cons (de_var 1) (da_cons (de_var 2) da_nil)))))
      (db_one (ds_ret (de_if (dt_cmp op_lt ro_IB (de_var 3) (de_meth0 A.cls_Planner A.m_Planner_whole (D_Planner_whole A) (hr.mono (by omega)) pass0 (de_var 4)) (nomark _)) (de_meth A.cls_Planner A.m_Planner_at (D_Planner_at A) (hr.mono (by omega)) pass0 (de_var 4) (da_cons (de_var 3) da_nil)) de_non))))))),
      ?_⟩)
  all_goals (
    rintro ds S Q Ed ⟨b, lk, w, s, m, rfl, hb, hw, q⟩
    have nw : ("whole" : Str) ∉ plN := by decide
    have na : ("at" : Str) ∉ plN := by decide
    simp! [sp_check_window, sp_check_small, wMake, sp_is_number]
    refine ⟨w, rfl, hw, ite_any (fun h => by simp at h) (fun _ => ⟨b, lk, rfl, hb.2.1, fun a ha => make_pl ha hb hw fun la da S3 sub hla hda at3 => ⟨⟨_, _, rfl, nw⟩, _, rfl, at3, fun L hL => ?_⟩⟩)⟩
    simp! []
    refine ite_any (fun h => ?_) (fun h => ?_)
    · have h := of_decide_eq_true h
      have hg : (evL b w s)[m]? = some _ := List.getElem?_eq_getElem (by omega)
      rw [hg] at q
      refine ⟨⟨_, _, rfl, na⟩, _, m, _, rfl, at3.to hL, hg, fun L2 hL2 => ?_⟩
      rw [MS.set_set]
      exact outK.mk (sub.set2 hda) q
    · rw [List.getElem?_eq_none (Classical.byContradiction fun h2 => h (decide_eq_true (show (m : Int) < ((evL b w s).length : Int) by omega)))] at q
      exact outK.mk (sub.set2 hda) q)
theorem D_plan_at (A : Al K mg) : Def P w K mg base CX0 12 "plan_at" ["book", "window", "strict", "number"] sp_plan_at := by
  obtain ⟨f, fd, Fu, hm, hb⟩ := fu_plan_at A
  exact ⟨f, fd, O_plan_at A Fu, hm, Fu.kp, hb⟩
end
theorem sc_plan_chance : FnScope ["book", "window", "strict", "a", "time", "planner", "whole"] ["book", "window", "strict", "a", "time"] (defScope s_plan_chance) := ⟨rfl, rfl, rfl, by decide +kernel, rfl, by decide +kernel, by decide +kernel⟩
theorem ar_plan_chance : ∀ ds S Q E, sp_plan_chance ds S Q E → ds.length = 5 := by
  rintro ds S Q E h
  simp only [sp_plan_chance] at h
  obtain ⟨_, h⟩ := h
  repeat (first | (obtain ⟨rfl, _⟩ := h; rfl) | (obtain ⟨_, h⟩ := h))
section
variable {P : Program} {w : World} {K : PySem.W.Frag} {mg : Str → Option Value} {base : Heap}
theorem O_plan_chance (A : Al K mg) {f : Addr} {fd : FuncData} (Fu : FunD K "plan_chance" "plan_chance" (defArgs s_plan_chance) (defBody s_plan_chance) (defScope s_plan_chance) [] [] f fd) : FnG P w K mg base CX0 12 f fd ["book", "window", "strict", "a", "time"] (spD K sp_plan_chance) := by
  refine fn_d Fu sc_plan_chance ar_plan_chance (fun cdv A0 outer s0 H0 E0' hr => ⟨_, _,
      (db_cons (ds_expr (de_callK (D_check_window A) (hr.mono (by omega)) pass0 rfl (da_cons (de_var 1) (da_cons (de_var 2) da_nil))))
      (db_cons (ds_if (dt_not (dt_val (de_callK (D_is_within A) (hr.mono (by omega)) pass0 rfl (da_cons (de_var 3) (da_cons de_int (da_cons (de_op op_sub ro_I0 (de_fld K A.cls_Book A.na_Book_count (de_var 0)) de_int) da_nil))))))
        (db_one ds_never)
        db_nil)
      (db_cons (ds_if (dt_not (dt_val (de_callK (D_is_integer A) (hr.mono (by omega)) pass0 rfl (da_cons (de_var 4) da_nil))))
        (db_one ds_never)
        db_nil)
      (db_cons (ds_expr (de_callK (D_check_small A) (hr.mono (by omega)) pass0 rfl (da_cons (de_var 0) da_nil)))
      (db_cons (ds_set 5 sc_plan_chance.nd (de_make false A.mk_Planner (D_Planner___init__ A) (hr.mono (by omega)) pass0 rfl A.g_Planner (da_cons (de_var 0) (da_cons (de_var 1) (da_cons (de_var 2) da_nil)))))
      (db_cons (ds_set 6 sc_plan_chance.nd (de_meth0 A.cls_Planner A.m_Planner_whole (D_Planner_whole A) (hr.mono (by omega)) pass0 (de_var 5)))
      (db_cons (ds_if (dt_cmp (op_eqK K hr.units) ro_eq (de_var 6) de_int (nomark _))
        (db_one ds_never)
        db_nil)
      (db_one (ds_ret (de_callK (D_lowest A) (hr.mono (by omega)) pass0 rfl (da_cons (de_meth A.cls_Planner A.m_Planner_with_time (D_Planner_with_time A) (hr.mono (by omega)) pass0 (de_var 5) (da_cons (de_var 3) (da_cons (de_var 4) da_nil))) (da_cons (de_var 6) da_nil)))))))))))),
      ?_⟩)
  all_goals (
    rintro ds S Q Ed ⟨b, lk, w, s, l, t, rfl, hb, hw, hl, hn, q⟩
    have nw : ("whole" : Str) ∉ plN := by decide
    have nt : ("with_time" : Str) ∉ plN := by decide
    have hc := cntT_le (b := b) (w := w) (s := s) (l := l) (t := t)
    simp! [sp_check_window, sp_check_small, wMake, sp_is_within, isWithin, sp_is_integer, isInt]
    refine ⟨w, rfl, hw, _, _, rfl, _, f_count, ?_⟩
    simp! []
    refine ite_any (fun h => ?_) (fun _ => ⟨b, lk, rfl, hb.2.1, fun a ha => make_pl ha hb hw fun la da S3 sub hla hda at3 => ⟨⟨_, _, rfl, nw⟩, _, rfl, at3, fun L hL => ?_⟩⟩)
    · simp at h
      omega
    simp! []
    refine ite_any (fun h => ?_) (fun _ => ⟨⟨_, _, rfl, nt⟩, _, l, t, rfl, at3.to hL, hl, fun L2 hL2 => ⟨_, _, rfl, hc.1, ⟨by omega, by omega⟩, ?_⟩⟩)
    · have h := of_decide_eq_true h
      omega
    rw [MS.set_set]
    exact outK.mk (sub.set2 hda) q)
theorem D_plan_chance (A : Al K mg) : Def P w K mg base CX0 12 "plan_chance" ["book", "window", "strict", "a", "time"] sp_plan_chance := by
  obtain ⟨f, fd, Fu, hm, hb⟩ := fu_plan_chance A
  exact ⟨f, fd, O_plan_chance A Fu, hm, Fu.kp, hb⟩
end
theorem sc_planner_for : FnScope ["book", "window", "strict", "layers", "planner", "layer"] ["book", "window", "strict", "layers"] (defScope s_planner_for) := ⟨rfl, rfl, rfl, by decide +kernel, rfl, by decide +kernel, by decide +kernel⟩
theorem ar_planner_for : ∀ ds S Q E, sp_planner_for ds S Q E → ds.length = 4 := by
  rintro ds S Q E h
  simp only [sp_planner_for] at h
  obtain ⟨_, h⟩ := h
  repeat (first | (obtain ⟨rfl, _⟩ := h; rfl) | (obtain ⟨_, h⟩ := h))
section
variable {P : Program} {w : World} {K : PySem.W.Frag} {mg : Str → Option Value} {base : Heap}
theorem O_planner_for (A : Al K mg) {f : Addr} {fd : FuncData} (Fu : FunD K "planner_for" "planner_for" (defArgs s_planner_for) (defBody s_planner_for) (defScope s_planner_for) [] [] f fd) : FnG P w K mg base CX0 12 f fd ["book", "window", "strict", "layers"] (spD K sp_planner_for) := by
  refine fn_d Fu sc_planner_for ar_planner_for (fun cdv A0 outer s0 H0 E0' hr => ⟨_, _,
      (db_cons (ds_expr (de_callK (D_check_window A) (hr.mono (by omega)) pass0 rfl (da_cons (de_var 1) (da_cons (de_var 2) da_nil))))
      (db_cons (ds_if (dt_not (dt_val (de_cb (cr_allK K rfl) roc_all rfl A.b_all (by decide +kernel) (da_cons (de_lc false [("layer", 5)] rfl sc_planner_for.nd (di_seqK K (de_var 3)) (blkOk_by (by kernel_rfl)) (fun _ _ _ _ _ => (dg_name (vs := [5]) 5 (by decide) sc_planner_for.nd)) (fun _ _ _ _ _ => dts_nil) (fun _ _ _ _ _ => (de_callK (D_is_within A) (hr.mono (by omega)) pass0 rfl (da_cons (de_var 5) (da_cons de_int (da_cons (de_op op_sub ro_I0 (de_fld K A.cls_Book A.na_Book_count (de_var 0)) de_int) da_nil)))))) da_nil))))
        (db_one ds_never)
        db_nil)
      (db_cons (ds_if (dt_w (dw_and (dt_cmp (op_eqK K hr.units) ro_eq (de_cb (call_lenK K) roc_len rfl A.b_len (by decide +kernel) (da_cons (de_var 3) da_nil)) de_int (nomark _)) (dw_and1 (dt_not (dt_val (de_callK (D_is_pair A) (hr.mono (by omega)) pass0 rfl (da_cons (de_fld K A.cls_Book A.na_Book_count (de_var 0)) (da_cons (de_var 3) da_nil))))))))
        (db_one ds_never)
        db_nil)
      (db_cons (ds_expr (de_callK (D_check_small A) (hr.mono (by omega)) pass0 rfl (da_cons (de_var 0) da_nil)))
      (db_cons (ds_set 4 sc_planner_for.nd (de_make false A.mk_Planner (D_Planner___init__ A) (hr.mono (by omega)) pass0 rfl A.g_Planner (da_cons (de_var 0) (da_cons (de_var 1) (da_cons (de_var 2) da_nil)))))
      (db_cons (ds_if (dt_cmp (op_eqK K hr.units) ro_eq (de_meth0 A.cls_Planner A.m_Planner_whole (D_Planner_whole A) (hr.mono (by omega)) pass0 (de_var 4)) de_int (nomark _))
        (db_one ds_never)
        db_nil)
      (db_one (ds_ret (de_var 4))))))))),
      ?_⟩)
  all_goals (
    rintro ds S Q Ed ⟨b, lk, w, s, ls, rfl, hb, hw, hls, hn, q⟩
    have nw : ("whole" : Str) ∉ plN := by decide
    have hin : ∀ x ∈ ls, 0 ≤ x ∧ x < b.count := by
      rcases hls with ⟨a, rfl, h1, h2⟩ | ⟨x, y, rfl, h0, h1, h2⟩
      · intro x hx
        rw [List.mem_singleton.mp hx]
        exact ⟨h1, h2⟩
      · intro z hz
        simp only [List.mem_cons, List.not_mem_nil, or_false] at hz
        rcases hz with rfl | rfl
        · exact h1
        · exact h2
    have hlen : ls.length ≤ 2 := by
      rcases hls with ⟨a, rfl, h1, h2⟩ | ⟨x, y, rfl, h0, h1, h2⟩ <;> simp
    simp! [sp_check_window, sp_check_small, wMake]
    refine ⟨w, rfl, hw, ?_⟩
    refine compAllT noG_any (le_sz (by rw [List.length_map]; omega)) (fun d hd S' sub N hN => ?_) ?_
    · obtain ⟨x, hx, rfl⟩ := List.mem_map.mp hd
      have hx := hin x hx
      simp! [sp_is_within, isWithin, bkV, D.obj.injEq, f_count]
      rw [show (decide (0 ≤ x) && decide (x ≤ b.count - 1)) = true from by simp; omega]
      exact hN
    refine ⟨true, rfl, ?_⟩
    rw [if_neg (by simp)]
    have fin : ∃ b_1 lk_1, bkV b lk = bkV b_1 lk_1 ∧ b_1.count ≤ 4 ∧ ∀ (a : Addr), S a = none → sp_Planner___init__ [D.ref a, bkV b lk, pD w, D.bl s] (S.set a (MO.ins (Str.ofString "Planner") [] [])) (fun v S2 => v = D.non ∧ endI false (Str.ofString "Planner") a S2 fun d S3 => (∃ ns ds, rd S3 d = D.obj (Str.ofString "Planner") ns ds ∧ ¬Str.ofString "whole" ∈ ns) ∧ sp_Planner_whole [d] S3 (fun d_1 S3 => okD (rd S3 d_1) = true ∧ if eqD (rd S3 d_1) (D.int 0) = true then False else outK Q d S3) noX) noX := by
      refine ⟨b, lk, rfl, hb.2.1, fun a ha => make_pl ha hb hw fun la da S3 sub hla hda at3 => ⟨⟨_, _, rfl, nw⟩, _, rfl, at3, fun L hL => ?_⟩⟩
      simp! []
      refine ite_any (fun h => ?_) (fun _ => outK.same (q la da _ (sub.set2 hda) hla hda (at3.to hL)))
      have h := of_decide_eq_true h
      omega
    refine ite_any (fun h => ?_) (fun _ => fin)
    have h := of_decide_eq_true h
    rcases hls with ⟨a, rfl, h1, h2⟩ | ⟨x, y, rfl, h0, h1, h2⟩
    · simp at h
    refine ⟨_, _, rfl, _, f_count, b.count, .int x, .int y, rfl, rfl, rfl, _, rfl, ?_⟩
    rw [show (isWithin (.int x) 0 (b.count - 1) && isWithin (.int y) 0 (b.count - 1) && !eqD (.int x) (.int y)) = true from by rw [eqD_int, decide_eq_false h0]; simp [isWithin]; omega, if_neg (by simp)]
    exact fin)
theorem D_planner_for (A : Al K mg) : Def P w K mg base CX0 12 "planner_for" ["book", "window", "strict", "layers"] sp_planner_for := by
  obtain ⟨f, fd, Fu, hm, hb⟩ := fu_planner_for A
  exact ⟨f, fd, O_planner_for A Fu, hm, Fu.kp, hb⟩
end
theorem sc_shares_in : FnScope ["planner", "window", "a", "whole", "time"] ["planner", "window", "a"] (defScope s_shares_in) := ⟨rfl, rfl, rfl, by decide +kernel, rfl, by decide +kernel, by decide +kernel⟩
theorem ar_shares_in : ∀ ds S Q E, sp_shares_in ds S Q E → ds.length = 3 := by
  rintro ds S Q E h
  simp only [sp_shares_in] at h
  obtain ⟨_, h⟩ := h
  repeat (first | (obtain ⟨rfl, _⟩ := h; rfl) | (obtain ⟨_, h⟩ := h))
section
variable {P : Program} {w : World} {K : PySem.W.Frag} {mg : Str → Option Value} {base : Heap}
theorem O_shares_in (A : Al K mg) {f : Addr} {fd : FuncData} (Fu : FunD K "shares_in" "shares_in" (defArgs s_shares_in) (defBody s_shares_in) (defScope s_shares_in) [] [] f fd) : FnG P w K mg base CX0 12 f fd ["planner", "window", "a"] (spD K sp_shares_in) := by
  refine fn_d Fu sc_shares_in ar_shares_in (fun cdv A0 outer s0 H0 E0' hr => ⟨_, _,
      (db_cons (ds_set 3 sc_shares_in.nd (de_meth0 A.cls_Planner A.m_Planner_whole (D_Planner_whole A) (hr.mono (by omega)) pass0 (de_var 0)))
      (db_one (ds_ret (de_lc false [("time", 4)] rfl sc_shares_in.nd (di_range2 rfl A.b_range (da_cons (de_ixK K (de_var 1) de_int) (da_cons (de_op (op_addK K) (ro_add false) (de_ixK K (de_var 1) de_int) de_int) da_nil))) (blkOk_by (by kernel_rfl)) (fun _ _ _ _ _ => (dg_name (vs := [4]) 4 (by decide) sc_shares_in.nd)) (fun _ _ _ _ _ => dts_nil) (fun _ _ _ _ _ => (de_callK (D_reduced A) (hr.mono (by omega)) pass0 rfl (da_cons (de_meth A.cls_Planner A.m_Planner_with_time (D_Planner_with_time A) (hr.mono (by omega)) pass0 (de_var 0) (da_cons (de_var 2) (da_cons (de_var 4) da_nil))) (da_cons (de_var 3) da_nil)))))))),
      ?_⟩)
  all_goals (
    rintro ds S Q Ed ⟨P, l, rfl, at0, hl, hn, q⟩
    have nw : ("whole" : Str) ∉ plN := by decide
    have nt : ("with_time" : Str) ∉ plN := by decide
    have hw := at0.ok.2
    simp! []
    refine ⟨⟨_, _, rfl, nw⟩, P, rfl, at0, fun L hL => ?_⟩
    have at1 := at0.to hL
    simp! [pD]
    obtain ⟨⟨hw1, hw2⟩, hw3, hw4⟩ := hw
    refine ⟨by omega, by omega, by omega, by omega, ?_⟩
    rw [rangeD_rng]
    refine comp_pl ((rngI P.w.1 P.w.2).map fun t => frD (lowF (cntT P.b P.w P.ws l t) ((evL P.b P.w P.ws).length : Int))) (by rw [List.length_map, List.length_map]) (by rw [List.length_map, rngI_len]; omega) at1 (fun _ _ => trivial) (fun i d x hd hx S1 at2 N hN => ?_) (fun L2 hL2 => ?_)
    · obtain ⟨t, ht, rfl⟩ := map_get hd
      rw [List.getElem?_map, ht] at hx
      cases hx
      simp! [wMeth]
      refine ⟨⟨_, _, rfl, nt⟩, P, l, t, rfl, at2, hl, fun L3 hL3 => ?_⟩
      simp! []
      exact ⟨_, _, rfl, ⟨by omega, by omega⟩, hN L3 hL3⟩
    · rw [MS.set_set]
      exact outK.same (q L2 hL2))
theorem D_shares_in (A : Al K mg) : Def P w K mg base CX0 12 "shares_in" ["planner", "window", "a"] sp_shares_in := by
  obtain ⟨f, fd, Fu, hm, hb⟩ := fu_shares_in A
  exact ⟨f, fd, O_shares_in A Fu, hm, Fu.kp, hb⟩
end
theorem sc_plan_times : FnScope ["book", "window", "strict", "a"] ["book", "window", "strict", "a"] (defScope s_plan_times) := ⟨rfl, rfl, rfl, by decide +kernel, rfl, by decide +kernel, by decide +kernel⟩
theorem ar_plan_times : ∀ ds S Q E, sp_plan_times ds S Q E → ds.length = 4 := by
  rintro ds S Q E h
  simp only [sp_plan_times] at h
  obtain ⟨_, h⟩ := h
  repeat (first | (obtain ⟨rfl, _⟩ := h; rfl) | (obtain ⟨_, h⟩ := h))
section
variable {P : Program} {w : World} {K : PySem.W.Frag} {mg : Str → Option Value} {base : Heap}
theorem O_plan_times (A : Al K mg) {f : Addr} {fd : FuncData} (Fu : FunD K "plan_times" "plan_times" (defArgs s_plan_times) (defBody s_plan_times) (defScope s_plan_times) [] [] f fd) : FnG P w K mg base CX0 13 f fd ["book", "window", "strict", "a"] (spD K sp_plan_times) := by
  refine fn_d Fu sc_plan_times ar_plan_times (fun cdv A0 outer s0 H0 E0' hr => ⟨_, _,
      (db_one (ds_ret (de_ct (call_tupleK K) roc_tuple rfl A.b_tuple (by decide +kernel) (da_cons (de_callK (D_shares_in A) (hr.mono (by omega)) pass0 rfl (da_cons (de_callK (D_planner_for A) (hr.mono (by omega)) pass0 rfl (da_cons (de_var 0) (da_cons (de_var 1) (da_cons (de_var 2) (da_cons (de_tup (da_cons (de_var 3) da_nil)) da_nil))))) (da_cons (de_var 1) (da_cons (de_var 3) da_nil)))) da_nil)))),
      ?_⟩)
  all_goals (
    rintro ds S Q Ed ⟨b, lk, w, s, l, rfl, hb, hw, hl, hn, q⟩
    have hc1 := hb.1.1
    simp! []
    refine ⟨le_sz (by decide), b, lk, w, s, [(l : Int)], rfl, hb, hw, .inl ⟨_, rfl, by omega, by omega⟩, hn.1, fun la da S3 sub hla hda at3 => ⟨_, l, rfl, at3, hl, hn, fun L hL => ?_⟩⟩
    simp! []
    refine outK.mk (sub.set2 hda) q)
theorem D_plan_times (A : Al K mg) : Def P w K mg base CX0 13 "plan_times" ["book", "window", "strict", "a"] sp_plan_times := by
  obtain ⟨f, fd, Fu, hm, hb⟩ := fu_plan_times A
  exact ⟨f, fd, O_plan_times A Fu, hm, Fu.kp, hb⟩
end
theorem sc_plan_mean : FnScope ["book", "window", "strict", "a", "found", "at", "one"] ["book", "window", "strict", "a"] (defScope s_plan_mean) := ⟨rfl, rfl, rfl, by decide +kernel, rfl, by decide +kernel, by decide +kernel⟩
theorem ar_plan_mean : ∀ ds S Q E, sp_plan_mean ds S Q E → ds.length = 4 := by
  rintro ds S Q E h
  simp only [sp_plan_mean] at h
  obtain ⟨_, h⟩ := h
  repeat (first | (obtain ⟨rfl, _⟩ := h; rfl) | (obtain ⟨_, h⟩ := h))
section
variable {P : Program} {w : World} {K : PySem.W.Frag} {mg : Str → Option Value} {base : Heap}
theorem O_plan_mean (A : Al K mg) {f : Addr} {fd : FuncData} (Fu : FunD K "plan_mean" "plan_mean" (defArgs s_plan_mean) (defBody s_plan_mean) (defScope s_plan_mean) [] [] f fd) : FnG P w K mg base CX0 13 f fd ["book", "window", "strict", "a"] (spD K sp_plan_mean) := by
  refine fn_d Fu sc_plan_mean ar_plan_mean (fun cdv A0 outer s0 H0 E0' hr => ⟨_, _,
      (db_cons (ds_set 4 sc_plan_mean.nd (de_tup (da_cons de_int (da_cons de_int da_nil))))
      (db_cons (ds_for (vs := [5, 6]) PassesOwn.never rfl (di_enumK K rfl A.b_enumerate (da_cons (de_callK (D_shares_in A) (hr.mono (by omega)) pass0 rfl (da_cons (de_callK (D_planner_for A) (hr.mono (by omega)) pass0 rfl (da_cons (de_var 0) (da_cons (de_var 1) (da_cons (de_var 2) (da_cons (de_tup (da_cons (de_var 3) da_nil)) da_nil))))) (da_cons (de_var 1) (da_cons (de_var 3) da_nil)))) da_nil)) (dg_tupK K (n := 2) rfl (dgs_cons (dg_name (vs := [5, 6]) 5 (by decide) sc_plan_mean.nd) (dgs_cons (dg_name (vs := [5, 6]) 6 (by decide) sc_plan_mean.nd) dgs_nil)))
        (db_one (ds_set 4 sc_plan_mean.nd (de_callK (D_plus A) (hr.mono (by omega)) pass0 rfl (da_cons (de_var 4) (da_cons (de_callK (D_product A) (hr.mono (by omega)) pass0 rfl (da_cons (de_var 6) (da_cons (de_tup (da_cons (de_op (op_addK K) (ro_add false) (de_ixK K (de_var 1) de_int) (de_var 5)) (da_cons de_int da_nil))) da_nil))) da_nil))))))
      (db_one (ds_ret (de_var 4))))),
      ?_⟩)
  all_goals (
    rintro ds S Q Ed ⟨b, lk, w, s, l, rfl, hb, hw, hl, hn, q⟩
    have hc1 := hb.1.1
    have hc := fun t => cntT_le (b := b) (w := w) (s := s) (l := l) (t := t)
    obtain ⟨⟨hw1, hw2⟩, hw3, hw4⟩ := hw
    simp! []
    refine ⟨le_sz (by decide), le_sz (by decide), b, lk, w, s, [(l : Int)], rfl, hb, ⟨⟨hw1, hw2⟩, hw3, hw4⟩, .inl ⟨_, rfl, by omega, by omega⟩, hn.1, fun la da S3 sub hla hda at3 => ⟨_, l, rfl, at3, hl, hn, fun L hL => ?_⟩⟩
    simp! []
    have np : (0 : Int) < ((evL b w s).length : Int) := by omega
    refine forW_n (fun i ρ S' => S' = S3.set da (knM ⟨b, s, w, lk, la, da⟩ L) ∧ ∃ z5 z6, ρ = [some (bkV b lk), some (pD w), some (.bl s), some (.int (l : Int)), some (frD (lowF (((rngI w.1 w.2).take i).map fun t => cntT b w s l t * t).sum ((evL b w s).length : Int))), z5, z6]) (fun _ _ _ _ => trivial) (fun i d ρ S' hd h N hN => ?hs) (fun ρ S' h => ?hd) ⟨rfl, none, none, ?_⟩
    case hd =>
      obtain ⟨rfl, z5, z6, rfl⟩ := h
      rw [enumD_length, List.length_map, List.take_length, mean_sum hb ⟨⟨hw1, hw2⟩, hw3, hw4⟩ hl]
      simp! []
      exact outK.mk (sub.set2 hda) q
    case hs =>
      obtain ⟨rfl, z5, z6, rfl⟩ := h
      have hi : i < (rngI w.1 w.2).length := by
        have := (List.getElem?_eq_some_iff.mp hd).1
        rw [enumD_length, List.length_map] at this
        exact this
      have ht : (rngI w.1 w.2)[i]? = some (w.1 + (i : Int)) := rngI_get (by rw [rngI_len] at hi; exact hi)
      have hd := Option.some.inj ((enumD_get (by rw [List.getElem?_map, ht]; rfl)).symm.trans hd)
      subst hd
      have tk : (rngI w.1 w.2).take (i + 1) = (rngI w.1 w.2).take i ++ [w.1 + (i : Int)] := by rw [List.take_add_one, ht]; rfl
      have hct := hc (w.1 + (i : Int))
      have o1 : frOk (lowF (cntT b w s l (w.1 + (i : Int))) ((evL b w s).length : Int)) := lowF_ok (by omega) (by omega)
      have o2 : frOk (w.1 + (i : Int), 1) := by
        rw [rngI_len] at hi
        unfold frOk
        dsimp only
        omega
      simp! [pD]
      refine ⟨le_sz (by decide), _, (w.1 + (i : Int), 1), rfl, o1, o2, ?_⟩
      have o3 : lowF ((lowF (cntT b w s l (w.1 + (i : Int))) ((evL b w s).length : Int)).1 * (w.1 + (i : Int))) ((lowF (cntT b w s l (w.1 + (i : Int))) ((evL b w s).length : Int)).2 * 1) = lowF (cntT b w s l (w.1 + (i : Int)) * (w.1 + (i : Int))) ((evL b w s).length : Int) := lowF_times np
      rw [o3]
      have b1 := fun i => ev_sums (b := b) (w := w) (s := s) (l := l) (i := i) ⟨⟨hw1, hw2⟩, hw3, hw4⟩ hn.2
      have b2 := b1 i
      have b3 := b1 (i + 1)
      rw [tk, List.map_append, List.sum_append, List.map_singleton, List.sum_singleton] at b3
      refine ⟨_, _, rfl, lowF_ok (by omega) (by omega), lowF_ok (by omega) (by omega), ?_⟩
      rw [lowF_add np]
      refine hN _ _ ⟨rfl, some (.int (i : Int)), some (frD (lowF (cntT b w s l (w.1 + (i : Int))) ((evL b w s).length : Int))), ?_⟩
      rw [tk, List.map_append, List.sum_append, List.map_singleton, List.sum_singleton]
      rfl
    · rw [List.take_zero, List.map_nil, List.sum_nil, lowF_zero np]
      rfl)
theorem D_plan_mean (A : Al K mg) : Def P w K mg base CX0 13 "plan_mean" ["book", "window", "strict", "a"] sp_plan_mean := by
  obtain ⟨f, fd, Fu, hm, hb⟩ := fu_plan_mean A
  exact ⟨f, fd, O_plan_mean A Fu, hm, Fu.kp, hb⟩
end
theorem sc_plan_pair : FnScope ["book", "window", "strict", "a", "b", "planner", "counts", "time", "other", "place", "count"] ["book", "window", "strict", "a", "b"] (defScope s_plan_pair) := ⟨rfl, rfl, rfl, by decide +kernel, rfl, by decide +kernel, by decide +kernel⟩
theorem ar_plan_pair : ∀ ds S Q E, sp_plan_pair ds S Q E → ds.length = 5 := by
  rintro ds S Q E h
  simp only [sp_plan_pair] at h
  obtain ⟨_, h⟩ := h
  repeat (first | (obtain ⟨rfl, _⟩ := h; rfl) | (obtain ⟨_, h⟩ := h))
section
variable {P : Program} {w : World} {K : PySem.W.Frag} {mg : Str → Option Value} {base : Heap}
theorem O_plan_pair (A : Al K mg) {f : Addr} {fd : FuncData} (Fu : FunD K "plan_pair" "plan_pair" (defArgs s_plan_pair) (defBody s_plan_pair) (defScope s_plan_pair) [] [] f fd) : FnG P w K mg base CX0 13 f fd ["book", "window", "strict", "a", "b"] (spD K sp_plan_pair) := by
  refine fn_d Fu sc_plan_pair ar_plan_pair (fun cdv A0 outer s0 H0 E0' hr => ⟨_, _,
      (db_cons (ds_set 5 sc_plan_pair.nd (de_callK (D_planner_for A) (hr.mono (by omega)) pass0 rfl (da_cons (de_var 0) (da_cons (de_var 1) (da_cons (de_var 2) (da_cons (de_tup (da_cons (de_var 3) (da_cons (de_var 4) da_nil))) da_nil))))))
      (db_cons (ds_set 6 sc_plan_pair.nd (de_lst true (da_cons de_int (da_cons de_int (da_cons de_int da_nil)))))
      (db_cons (ds_for (vs := [7]) PassesOwn.never rfl (di_range2 rfl A.b_range (da_cons (de_ixK K (de_var 1) de_int) (da_cons (de_op (op_addK K) (ro_add false) (de_ixK K (de_var 1) de_int) de_int) da_nil))) (dg_name (vs := [7]) 7 (by decide) sc_plan_pair.nd)
        (db_one (ds_for (vs := [8]) PassesOwn.never rfl (di_range2 rfl A.b_range (da_cons (de_ixK K (de_var 1) de_int) (da_cons (de_op (op_addK K) (ro_add false) (de_ixK K (de_var 1) de_int) de_int) da_nil))) (dg_name (vs := [8]) 8 (by decide) sc_plan_pair.nd)
          (db_cons (ds_set 9 sc_plan_pair.nd (de_op op_sub ro_I0 (de_op (op_addK K) (ro_add false) de_int (de_ct call_int1 roc_int rfl A.b_int (by decide +kernel) (da_cons (de_cmp op_gt ro_IB (de_var 7) (de_var 8) (nomark _)) da_nil))) (de_ct call_int1 roc_int rfl A.b_int (by decide +kernel) (da_cons (de_cmp op_lt ro_IB (de_var 7) (de_var 8) (nomark _)) da_nil))))
          (db_one (ds_asg (vs := []) (de_op (op_addK K) (ro_add false) (de_ixK K (de_var 6) (de_var 9)) (de_callK (D_with_both A) (hr.mono (by omega)) pass0 rfl (da_cons (de_var 5) (da_cons (de_var 3) (da_cons (de_var 7) (da_cons (de_var 4) (da_cons (de_var 8) da_nil))))))) (dg_setL (de_var 6) (de_var 9))))))))
      (db_one (ds_ret (de_ct (call_tupleK K) roc_tuple rfl A.b_tuple (by decide +kernel) (da_cons (de_lc false [("count", 10)] rfl sc_plan_pair.nd (di_seqK K (de_var 6)) (blkOk_by (by kernel_rfl)) (fun _ _ _ _ _ => (dg_name (vs := [10]) 10 (by decide) sc_plan_pair.nd)) (fun _ _ _ _ _ => dts_nil) (fun _ _ _ _ _ => (de_callK (D_reduced A) (hr.mono (by omega)) pass0 rfl (da_cons (de_var 10) (da_cons (de_meth0 A.cls_Planner A.m_Planner_whole (D_Planner_whole A) (hr.mono (by omega)) pass0 (de_var 5)) da_nil))))) da_nil))))))),
      ?_⟩)
  all_goals (
    rintro ds S Q Ed ⟨b, lk, w, s, l, k, rfl, hb, hw, hl, hk, hne, hn, q⟩
    have hc1 := hb.1.1
    obtain ⟨⟨hw1, hw2⟩, hw3, hw4⟩ := hw
    have hw : winOk w := ⟨⟨hw1, hw2⟩, hw3, hw4⟩
    have nw : ("whole" : Str) ∉ plN := by decide
    simp! []
    refine ⟨le_sz (by decide), b, lk, w, s, [(l : Int), (k : Int)], rfl, hb, hw, .inr ⟨_, _, rfl, by omega, ⟨by omega, by omega⟩, by omega, by omega⟩, hn.1, fun la da S3 sub hla hda at3 => ⟨le_sz (by decide), fun a ha => ?_⟩⟩
    have had : a ≠ da := fun e => by
      obtain ⟨L, _, h⟩ := at3.kn
      have h : S3 da = _ := h
      rw [e, h] at ha
      cases ha
    have hal : a ≠ la := fun e => by
      have h := at3.bd
      have h : S3 la = _ := h
      rw [e, h] at ha
      cases ha
    simp! [pD]
    refine ⟨by omega, by omega, by omega, by omega, ?_⟩
    rw [rangeD_rng]
    let P0 : Pl := ⟨b, s, w, lk, la, da⟩
    obtain ⟨L0, hL0, hk0⟩ := at3.kn
    have hk0 : S3 da = some (knM P0 L0) := hk0
    have np : (0 : Int) < ((evL b w s).length : Int) := by omega
    let g : Nat → Int → Int → Int := fun m t u => if plc t u = m then cnt2 b w s l k t u else 0
    let R := rngI w.1 w.2
    have atT : ∀ L cs, KnOk P0 L → PlAt ((S3.set da (knM P0 L)).set a (.lst cs)) P0 := fun L cs hL => ⟨at3.ok, (MS.set_ne hal.symm).trans (at3.to hL).bd, L, hL, (MS.set_ne had.symm).trans MS.set_same⟩
    have stT : ∀ L cs L2, ((S3.set da (knM P0 L)).set a (.lst cs)).set da (knM P0 L2) = (S3.set da (knM P0 L2)).set a (.lst cs) := fun L cs L2 => by
      rw [MS.set_comm had, MS.set_set]
    have geT : ∀ L cs, ((S3.set da (knM P0 L)).set a (.lst cs)) a = some (.lst cs) := fun L cs => MS.set_same
    have puT : ∀ L cs cs2, ((S3.set da (knM P0 L)).set a (.lst cs)).set a (.lst cs2) = (S3.set da (knM P0 L)).set a (.lst cs2) := fun L cs cs2 => MS.set_set
    have suT : ∀ L cs, DL.Sub S ((S3.set da (knM P0 L)).set a (.lst cs)) := fun L cs => (sub.set2 hda).set2 (sub.none ha)
    have plX0 : plX ⟨b, s, w, lk, la, da⟩ = plX P0 := rfl
    refine forW_n (fun i ρ S' => (∃ L, KnOk P0 L ∧ S' = (S3.set da (knM P0 L)).set a (.lst (csD fun m => ((R.take i).map fun t => (R.map fun u => g m t u).sum).sum))) ∧ ∃ z7 z8 z9, ρ = [some (bkV b lk), some (pD w), some (.bl s), some (.int (l : Int)), some (.int (k : Int)), some (plX P0), some (.ref a), z7, z8, z9, none]) (fun _ _ _ _ => trivial) (fun i d ρ S' hd h N hN => ?hs) (fun ρ S' h => ?hd) ⟨⟨L0, hL0, by rw [MS.set_id hk0]; rfl⟩, _, _, _, rfl⟩
    case hd =>
      obtain ⟨⟨L, hL, rfl⟩, z7, z8, z9, rfl⟩ := h
      rw [List.length_map, List.take_length, show (fun m => (R.map fun t => (R.map fun u => g m t u).sum).sum) = cntP b w s l k from funext fun m => pair_sum hb hw hl hk]
      simp! []
      rw [z_items_ref (geT _ _)]
      have okF : ∀ m, m < 3 → (0 : Int) ≤ cntP b w s l k m := fun m _ => by unfold cntP; omega
      refine comp_pl (P := P0) ((csD (cntP b w s l k)).map fun d => match d with | .int c => frD (lowF c ((evL b w s).length : Int)) | x => x) (List.length_map _) (show 3 < 1000000 by decide) (atT _ _ hL) (fun S2 h => h _ _ (geT _ _) had) (fun i d x hd hx S1 at1 N hN => ?_) (fun L2 hL2 => ?_)
      · rw [List.getElem?_map, hd] at hx
        cases hx
        have hi : i < 3 := (List.getElem?_eq_some_iff.mp hd).1
        rw [csD_get hi] at hd
        cases hd
        simp! [wMeth]
        refine ⟨⟨_, _, rfl, nw⟩, P0, rfl, at1, fun L3 hL3 => ?_⟩
        simp! []
        have hn2 : (evL P0.b P0.w P0.ws).length ≤ 10000 := hn.2
        exact ⟨_, _, rfl, ⟨np, by omega⟩, hN L3 hL3⟩
      · rw [stT]
        exact outK.mk (suT _ _) q
    case hs =>
      obtain ⟨⟨L, hL, rfl⟩, z7, z8, z9, rfl⟩ := h
      obtain ⟨t, ht, rfl⟩ := map_get hd
      have tk : R.take (i + 1) = R.take i ++ [t] := by rw [List.take_add_one, ht]; rfl
      simp! [pD]
      refine ⟨by omega, by omega, by omega, by omega, ?_⟩
      rw [rangeD_rng]
      refine forW_n (fun j ρ S' => (∃ L, KnOk P0 L ∧ S' = (S3.set da (knM P0 L)).set a (.lst (csD fun m => ((R.take i).map fun t => (R.map fun u => g m t u).sum).sum + ((R.take j).map fun u => g m t u).sum))) ∧ ∃ z8 z9, ρ = [some (bkV b lk), some (pD w), some (.bl s), some (.int (l : Int)), some (.int (k : Int)), some (plX P0), some (.ref a), some (.int t), z8, z9, none]) (fun _ _ _ _ => trivial) (fun j d ρ S' hd2 h M hM => ?hs) (fun ρ S' h => ?hd) ⟨⟨L, hL, by simp⟩, _, _, rfl⟩
      case hd =>
        obtain ⟨⟨L2, hL2, rfl⟩, z8, z9, rfl⟩ := h
        refine hN _ _ ⟨⟨L2, hL2, ?_⟩, _, _, _, rfl⟩
        rw [List.length_map, tk]
        congr 3
        funext m
        rw [List.map_append, List.sum_append, List.take_length]
        simp
        rfl
      case hs =>
        obtain ⟨⟨L2, hL2, rfl⟩, z8, z9, rfl⟩ := h
        obtain ⟨u, hu, rfl⟩ := map_get hd2
        have tk2 : R.take (j + 1) = R.take j ++ [u] := by rw [List.take_add_one, hu]; rfl
        have hpl := plc_lt t u
        simp! [z_int_blK]
        rw [plc_eq]
        rw [rd_ref (geT _ _), z_ixg (csD_get hpl)]
        refine ⟨P0, l, k, t, u, rfl, atT _ _ hL2, hl, hk, hn.1, fun L3 hL3 => ?_⟩
        rw [stT]
        refine ⟨_, _, _, _, rfl, rfl, geT _ _, ixN_n hpl, ?_⟩
        rw [puT, csD_set hpl]
        refine hM _ _ ⟨⟨L3, hL3, ?_⟩, _, _, rfl⟩
        congr 3
        funext m
        rw [tk2, List.map_append, List.sum_append, List.map_singleton, List.sum_singleton]
        have hcc : cnt2 P0.b P0.w P0.ws l k t u = cnt2 b w s l k t u := rfl
        by_cases e : m = plc t u
        · rw [if_pos e, e, show g (plc t u) t u = cnt2 b w s l k t u from if_pos rfl]
          omega
        · rw [if_neg e, show g m t u = 0 from if_neg fun z => e z.symm]
          omega)
theorem D_plan_pair (A : Al K mg) : Def P w K mg base CX0 13 "plan_pair" ["book", "window", "strict", "a", "b"] sp_plan_pair := by
  obtain ⟨f, fd, Fu, hm, hb⟩ := fu_plan_pair A
  exact ⟨f, fd, O_plan_pair A Fu, hm, Fu.kp, hb⟩
end
theorem sc_likeliest_plan_time : FnScope ["book", "window", "strict", "a", "shares", "best", "at", "one"] ["book", "window", "strict", "a"] (defScope s_likeliest_plan_time) := ⟨rfl, rfl, rfl, by decide +kernel, rfl, by decide +kernel, by decide +kernel⟩
theorem ar_likeliest_plan_time : ∀ ds S Q E, sp_likeliest_plan_time ds S Q E → ds.length = 4 := by
  rintro ds S Q E h
  simp only [sp_likeliest_plan_time] at h
  obtain ⟨_, h⟩ := h
  repeat (first | (obtain ⟨rfl, _⟩ := h; rfl) | (obtain ⟨_, h⟩ := h))
section
variable {P : Program} {w : World} {K : PySem.W.Frag} {mg : Str → Option Value} {base : Heap}
theorem O_likeliest_plan_time (A : Al K mg) {f : Addr} {fd : FuncData} (Fu : FunD K "likeliest_plan_time" "likeliest_plan_time" (defArgs s_likeliest_plan_time) (defBody s_likeliest_plan_time) (defScope s_likeliest_plan_time) [] [] f fd) : FnG P w K mg base CX0 13 f fd ["book", "window", "strict", "a"] (spD K sp_likeliest_plan_time) := by
  refine fn_d Fu sc_likeliest_plan_time ar_likeliest_plan_time (fun cdv A0 outer s0 H0 E0' hr => ⟨_, _,
      (db_cons (ds_set 4 sc_likeliest_plan_time.nd (de_callK (D_shares_in A) (hr.mono (by omega)) pass0 rfl (da_cons (de_callK (D_planner_for A) (hr.mono (by omega)) pass0 rfl (da_cons (de_var 0) (da_cons (de_var 1) (da_cons (de_var 2) (da_cons (de_tup (da_cons (de_var 3) da_nil)) da_nil))))) (da_cons (de_var 1) (da_cons (de_var 3) da_nil)))))
      (db_cons (ds_set 5 sc_likeliest_plan_time.nd de_int)
      (db_cons (ds_for (vs := [6, 7]) PassesOwn.never rfl (di_enumK K rfl A.b_enumerate (da_cons (de_var 4) da_nil)) (dg_tupK K (n := 2) rfl (dgs_cons (dg_name (vs := [6, 7]) 6 (by decide) sc_likeliest_plan_time.nd) (dgs_cons (dg_name (vs := [6, 7]) 7 (by decide) sc_likeliest_plan_time.nd) dgs_nil)))
        (db_one (ds_if (dt_cmp op_gt ro_IB (de_op (op_mulK K) (ro_mul false) (de_ixK K (de_var 7) de_int) (de_ixK K (de_ixK K (de_var 4) (de_var 5)) de_int)) (de_op (op_mulK K) (ro_mul false) (de_ixK K (de_ixK K (de_var 4) (de_var 5)) de_int) (de_ixK K (de_var 7) de_int)) (nomark _))
          (db_one (ds_set 5 sc_likeliest_plan_time.nd (de_var 6)))
          db_nil)))
      (db_one (ds_ret (de_tup (da_cons (de_op (op_addK K) (ro_add false) (de_ixK K (de_var 1) de_int) (de_var 5)) (da_cons (de_ixK K (de_var 4) (de_var 5)) da_nil)))))))),
      ?_⟩)
  all_goals (
    rintro ds S Q Ed ⟨b, lk, w, s, l, rfl, hb, hw, hl, hn, q⟩
    have hc1 := hb.1.1
    have hc := fun t => cntT_le (b := b) (w := w) (s := s) (l := l) (t := t)
    obtain ⟨⟨hw1, hw2⟩, hw3, hw4⟩ := hw
    simp! []
    refine ⟨le_sz (by decide), b, lk, w, s, [(l : Int)], rfl, hb, ⟨⟨hw1, hw2⟩, hw3, hw4⟩, .inl ⟨_, rfl, by omega, by omega⟩, hn.1, fun la da S3 sub hla hda at3 => ⟨_, l, rfl, at3, hl, hn, fun L hL => ?_⟩⟩
    simp! []
    have np : (0 : Int) < ((evL b w s).length : Int) := by omega
    have hgt : ∀ k : Nat, k < (rngI w.1 w.2).length → ((rngI w.1 w.2).map fun t => frD (lowF (cntT b w s l t) ((evL b w s).length : Int)))[k]? = some (frD (lowF (cntT b w s l (w.1 + (k : Int))) ((evL b w s).length : Int))) := fun k hk => by
      rw [List.getElem?_map, rngI_get (by rw [rngI_len] at hk; exact hk)]
      rfl
    have hlen : 0 < (rngI w.1 w.2).length := by rw [rngI_len]; omega
    refine forW_n (fun i ρ S' => S' = S3.set da (knM ⟨b, s, w, lk, la, da⟩ L) ∧ ∃ (k : Nat) (z6 z7 : Option D), (k < (rngI w.1 w.2).length ∧ (∀ j < i, cntT b w s l (w.1 + (j : Int)) ≤ cntT b w s l (w.1 + (k : Int))) ∧ ∀ j < k, cntT b w s l (w.1 + (j : Int)) < cntT b w s l (w.1 + (k : Int))) ∧
      ρ = [some (bkV b lk), some (pD w), some (.bl s), some (.int (l : Int)), some (.lst ((rngI w.1 w.2).map fun t => frD (lowF (cntT b w s l t) ((evL b w s).length : Int)))), some (.int (k : Int)), z6, z7]) (fun _ _ _ _ => trivial) (fun i d ρ S' hd h N hN => ?hs) (fun ρ S' h => ?hd) ⟨rfl, 0, _, _, ⟨hlen, fun j hj => absurd hj (Nat.not_lt_zero j), fun j hj => absurd hj (Nat.not_lt_zero j)⟩, rfl⟩
    case hd =>
      obtain ⟨rfl, k, z6, z7, ⟨hk, h1, h2⟩, rfl⟩ := h
      rw [enumD_length, List.length_map] at h1
      simp! [pD, z_ixg (hgt k hk)]
      exact ⟨le_sz (by decide), outK.mk (sub.set2 hda) (q k hk h1 h2)⟩
    case hs =>
      obtain ⟨rfl, k, z6, z7, ⟨hk, h1, h2⟩, rfl⟩ := h
      have hi : i < (rngI w.1 w.2).length := by
        have := (List.getElem?_eq_some_iff.mp hd).1
        rw [enumD_length, List.length_map] at this
        exact this
      have hd := Option.some.inj ((enumD_get (hgt i hi)).symm.trans hd)
      subst hd
      have ok : ∀ t, frOk (lowF (cntT b w s l t) ((evL b w s).length : Int)) := fun t => lowF_ok (by have := hc t; omega) (by omega)
      have o1 := ok (w.1 + (i : Int))
      have o2 := ok (w.1 + (k : Int))
      unfold frOk at o1 o2
      have hlt := lowF_lt (a := cntT b w s l (w.1 + (k : Int))) (b := cntT b w s l (w.1 + (i : Int))) np
      have hgk : ∀ S2 Q2, wIx (D.lst ((rngI w.1 w.2).map fun t => D.tup [.int (lowF (cntT b w s l t) ((evL b w s).length : Int)).1, .int (lowF (cntT b w s l t) ((evL b w s).length : Int)).2])) (.int (k : Int)) S2 Q2 ↔ Q2 (D.tup [.int (lowF (cntT b w s l (w.1 + (k : Int))) ((evL b w s).length : Int)).1, .int (lowF (cntT b w s l (w.1 + (k : Int))) ((evL b w s).length : Int)).2]) S2 := fun S2 Q2 => z_ixg (hgt k hk)
      simp! [hgk, frD]
      refine ⟨.inl ⟨by omega, by omega⟩, .inl ⟨by omega, by omega⟩, ite_any (fun h => ?_) (fun h => ?_)⟩
      · have h := hlt.mp (of_decide_eq_true h)
        refine hN _ _ ⟨rfl, i, _, _, ⟨hi, fun j hj => ?_, fun j hj => ?_⟩, rfl⟩
        · rcases Nat.lt_succ_iff_lt_or_eq.mp hj with hj | rfl
          · have := h1 j hj
            omega
          · exact Int.le_refl _
        · have := h1 j hj
          omega
      · have h : ¬ cntT b w s l (w.1 + (k : Int)) < cntT b w s l (w.1 + (i : Int)) := fun z => h (decide_eq_true (hlt.mpr z))
        refine hN _ _ ⟨rfl, k, _, _, ⟨hk, fun j hj => ?_, h2⟩, rfl⟩
        rcases Nat.lt_succ_iff_lt_or_eq.mp hj with hj | rfl
        · exact h1 j hj
        · omega)
theorem D_likeliest_plan_time (A : Al K mg) : Def P w K mg base CX0 13 "likeliest_plan_time" ["book", "window", "strict", "a"] sp_likeliest_plan_time := by
  obtain ⟨f, fd, Fu, hm, hb⟩ := fu_likeliest_plan_time A
  exact ⟨f, fd, O_likeliest_plan_time A Fu, hm, Fu.kp, hb⟩
end
theorem sc_law : FnScope ["script", "hand", "two", "turn", "parts", "low", "window", "strict", "book", "every", "whole", "a", "number", "times", "counts", "time", "one", "at", "b", "three", "over", "under", "other", "row", "layer"] ["script"] (defScope s_law) := ⟨rfl, rfl, rfl, by decide +kernel, rfl, by decide +kernel, by decide +kernel⟩
theorem ar_law : ∀ ds S Q E, sp_law ds S Q E → ds.length = 1 := by
  rintro ds S Q E h
  simp only [sp_law] at h
  obtain ⟨_, h⟩ := h
  repeat (first | (obtain ⟨rfl, _⟩ := h; rfl) | (obtain ⟨_, h⟩ := h))
section
variable {P : Program} {w : World} {K : PySem.W.Frag} {mg : Str → Option Value} {base : Heap}
theorem O_law (A : Al K mg) {f : Addr} {fd : FuncData} (Fu : FunD K "law" "law" (defArgs s_law) (defBody s_law) (defScope s_law) [] [] f fd) : FnG P w K mg base CX0 14 f fd ["script"] (spD K sp_law) := by
  refine fn_d Fu sc_law ar_law (fun cdv A0 outer s0 H0 E0' hr => ⟨_, _,
      (db_cons (ds_set 1 sc_law.nd (de_callK (V__law_hand A) (hr.mono (by omega)) pass0 rfl (da_cons (de_var 0) da_nil)))
      (db_cons (ds_set 2 sc_law.nd (de_make false A.mk_Book (D_Book___init__ A) (hr.mono (by omega)) pass0 rfl A.g_Book (da_cons de_int (da_cons (de_tup (da_cons (de_tup (da_cons de_int (da_cons de_int da_nil))) da_nil)) (da_cons (de_op (op_mulK K) (ro_mul false) (de_tup (da_cons (de_tup (da_cons de_non (da_cons de_non da_nil))) da_nil)) de_int) (da_cons (de_tup da_nil) da_nil))))))
      (db_cons (ds_if (dt_w (dw_or (dt_cmp (op_neK K hr.units) ro_ne (de_callK (D_plan_mean A) (hr.mono (by omega)) pass0 rfl (da_cons (de_var 2) (da_cons (de_tup (da_cons de_int (da_cons de_int da_nil))) (da_cons de_bl (da_cons de_int da_nil))))) (de_tup (da_cons de_int (da_cons de_int da_nil))) (nomark _)) (dw_or1 (dt_cmp (op_neK K hr.units) ro_ne (de_callK (D_plan_pair A) (hr.mono (by omega)) pass0 rfl (da_cons (de_var 2) (da_cons (de_tup (da_cons de_int (da_cons de_int da_nil))) (da_cons de_bl (da_cons de_int (da_cons de_int da_nil)))))) (de_tup (da_cons (de_tup (da_cons de_int (da_cons de_int da_nil))) (da_cons (de_tup (da_cons de_int (da_cons de_int da_nil))) (da_cons (de_tup (da_cons de_int (da_cons de_int da_nil))) da_nil)))) (nomark _)))))
        (db_one (ds_ret de_bl))
        db_nil)
      (db_cons (ds_for (vs := [3]) PassesOwn.never rfl (di_range1 rfl A.b_range (da_cons de_int da_nil)) (dg_name (vs := [3]) 3 (by decide) sc_law.nd)
        (db_cons (ds_set 4 sc_law.nd (de_callK (D__law_parts A) (hr.mono (by omega)) pass0 rfl (da_cons (de_var 1) (da_cons de_int (da_cons de_int (da_cons de_bl (da_cons de_bl da_nil)))))))
        (db_cons (ds_set 5 sc_law.nd (de_op op_sub ro_I0 (de_callK (V__law_draw A) (hr.mono (by omega)) pass0 rfl (da_cons (de_var 1) (da_cons de_int da_nil))) de_int))
        (db_cons (ds_par 6 7 rfl sc_law.nd (by decide) (da_cons (de_tup (da_cons (de_var 5) (da_cons (de_op (op_addK K) (ro_add false) (de_var 5) (de_callK (V__law_draw A) (hr.mono (by omega)) pass0 rfl (da_cons (de_var 1) (da_cons de_int da_nil)))) da_nil))) (da_cons (de_cmp (op_eqK K hr.units) ro_eq (de_callK (V__law_draw A) (hr.mono (by omega)) pass0 rfl (da_cons (de_var 1) (da_cons de_int da_nil))) de_int (nomark _)) da_nil)))
        (db_cons (ds_asg (vs := [8, 9]) (de_tup (da_cons (de_make false A.mk_Book (D_Book___init__ A) (hr.mono (by omega)) pass0 rfl A.g_Book (da_cons (de_ixK K (de_var 4) de_int) (da_cons (de_ixK K (de_var 4) de_int) (da_cons (de_ixK K (de_var 4) de_int) (da_cons (de_ixK K (de_var 4) de_int) da_nil))))) (da_cons (de_callK (D__law_plans A) (hr.mono (by omega)) pass0 rfl (da_cons (de_var 4) (da_cons (de_var 6) (da_cons (de_var 7) da_nil)))) da_nil))) (dg_tupK K (n := 2) rfl (dgs_cons (dg_name (vs := [8, 9]) 8 (by decide) sc_law.nd) (dgs_cons (dg_name (vs := [8, 9]) 9 (by decide) sc_law.nd) dgs_nil))))
        (db_cons (ds_asg (vs := [10, 11]) (de_tup (da_cons (de_cb (call_lenK K) roc_len rfl A.b_len (by decide +kernel) (da_cons (de_var 9) da_nil)) (da_cons (de_callK (V__law_draw A) (hr.mono (by omega)) pass0 rfl (da_cons (de_var 1) (da_cons (de_ixK K (de_var 4) de_int) da_nil))) da_nil))) (dg_tupK K (n := 2) rfl (dgs_cons (dg_name (vs := [10, 11]) 10 (by decide) sc_law.nd) (dgs_cons (dg_name (vs := [10, 11]) 11 (by decide) sc_law.nd) dgs_nil))))
        (db_cons (ds_if (dt_not (dt_val (de_callK (D__law_is A) (hr.mono (by omega)) pass0 rfl (da_cons (de_callK (D_many_plans A) (hr.mono (by omega)) pass0 rfl (da_cons (de_var 8) (da_cons (de_var 6) (da_cons (de_var 7) da_nil)))) (da_cons (de_var 10) da_nil)))))
          (db_one (ds_ret de_bl))
          db_nil)
        (db_cons (ds_set 12 sc_law.nd (de_callK (V__law_draw A) (hr.mono (by omega)) pass0 rfl (da_cons (de_var 1) (da_cons (de_op (op_addK K) (ro_add false) (de_var 10) de_int) da_nil))))
        (db_cons (ds_if (dt_cmp (op_neK K hr.units) ro_ne (de_callK (D_plan_at A) (hr.mono (by omega)) pass0 rfl (da_cons (de_var 8) (da_cons (de_var 6) (da_cons (de_var 7) (da_cons (de_var 12) da_nil))))) (de_if (dt_cmp op_lt ro_IB (de_var 12) (de_var 10) (nomark _)) (de_ixK K (de_var 9) (de_var 12)) de_non) (nomark _))
          (db_one (ds_ret de_bl))
          db_nil)
        (db_one (ds_if (dt_cmp op_gt ro_IB (de_var 10) de_int (nomark _))
          (db_cons (ds_set 13 sc_law.nd (de_listRg2 false rfl rfl A.b_list rfl A.b_range (de_ixK K (de_var 6) de_int) (de_op (op_addK K) (ro_add false) (de_ixK K (de_var 6) de_int) de_int)))
          (db_cons (ds_setLc false 14 [("time", 15)] rfl sc_law.nd (di_seqK K (de_var 13)) (blkOk_by (by kernel_rfl)) (fun _ _ _ _ _ => (dg_name (vs := [15]) 15 (by decide) sc_law.nd)) (fun _ _ _ _ _ => dts_nil) (fun _ _ _ _ _ => (de_cb (call_lenK K) roc_len rfl A.b_len (by decide +kernel) (da_cons (de_lc false [("row", 23)] rfl sc_law.nd (di_seqK K (de_var 9)) (blkOk_by (by kernel_rfl)) (fun _ _ _ _ _ => (dg_name (vs := [23]) 23 (by decide) sc_law.nd)) (fun _ _ _ _ _ => (dts_one (dt_cmp (op_eqK K hr.units) ro_eq (de_ixK K (de_var 23) (de_var 11)) (de_var 15) (nomark _)))) (fun _ _ _ _ _ => (de_var 23))) da_nil))))
          (db_cons (ds_if (dt_cmp (op_neK K hr.units) ro_ne (de_callK (D_plan_times A) (hr.mono (by omega)) pass0 rfl (da_cons (de_var 8) (da_cons (de_var 6) (da_cons (de_var 7) (da_cons (de_var 11) da_nil))))) (de_ct (call_tupleK K) roc_tuple rfl A.b_tuple (by decide +kernel) (da_cons (de_lc false [("one", 16)] rfl sc_law.nd (di_seqK K (de_var 14)) (blkOk_by (by kernel_rfl)) (fun _ _ _ _ _ => (dg_name (vs := [16]) 16 (by decide) sc_law.nd)) (fun _ _ _ _ _ => dts_nil) (fun _ _ _ _ _ => (de_callK (D__law_low A) (hr.mono (by omega)) pass0 rfl (da_cons (de_var 16) (da_cons (de_var 10) da_nil))))) da_nil)) (nomark _))
            (db_one (ds_ret de_bl))
            db_nil)
          (db_cons (ds_for (vs := [15, 16]) PassesOwn.never rfl (di_zipK K rfl A.b_zip (da_cons (de_var 13) (da_cons (de_var 14) da_nil))) (dg_tupK K (n := 2) rfl (dgs_cons (dg_name (vs := [15, 16]) 15 (by decide) sc_law.nd) (dgs_cons (dg_name (vs := [15, 16]) 16 (by decide) sc_law.nd) dgs_nil)))
            (db_one (ds_if (dt_cmp (op_neK K hr.units) ro_ne (de_callK (D_plan_chance A) (hr.mono (by omega)) pass0 rfl (da_cons (de_var 8) (da_cons (de_var 6) (da_cons (de_var 7) (da_cons (de_var 11) (da_cons (de_var 15) da_nil)))))) (de_callK (D__law_low A) (hr.mono (by omega)) pass0 rfl (da_cons (de_var 16) (da_cons (de_var 10) da_nil))) (nomark _))
              (db_one (ds_ret de_bl))
              db_nil)))
          (db_cons (ds_if (dt_cmp (op_neK K hr.units) ro_ne (de_callK (D_plan_mean A) (hr.mono (by omega)) pass0 rfl (da_cons (de_var 8) (da_cons (de_var 6) (da_cons (de_var 7) (da_cons (de_var 11) da_nil))))) (de_callK (D__law_low A) (hr.mono (by omega)) pass0 rfl (da_cons (de_cb (cr_sumK K rfl) roc_sum rfl A.b_sum (by decide +kernel) (da_cons (de_lc false [("row", 23)] rfl sc_law.nd (di_seqK K (de_var 9)) (blkOk_by (by kernel_rfl)) (fun _ _ _ _ _ => (dg_name (vs := [23]) 23 (by decide) sc_law.nd)) (fun _ _ _ _ _ => dts_nil) (fun _ _ _ _ _ => (de_ixK K (de_var 23) (de_var 11)))) da_nil)) (da_cons (de_var 10) da_nil))) (nomark _))
            (db_one (ds_ret de_bl))
            db_nil)
          (db_cons (ds_set 17 sc_law.nd (de_bmK K PySem.F.plainAttrs_list PySem.F.slot_list_index PySem.F.type_list_index (mt_indexL K) rm_indexL (de_var 14) (da_cons (de_cb (cr_maxD K hr.units rfl) roc_maxD rfl A.b_max (by decide +kernel) (da_cons (de_var 14) da_nil)) da_nil)))
          (db_cons (ds_if (dt_cmp (op_neK K hr.units) ro_ne (de_callK (D_likeliest_plan_time A) (hr.mono (by omega)) pass0 rfl (da_cons (de_var 8) (da_cons (de_var 6) (da_cons (de_var 7) (da_cons (de_var 11) da_nil))))) (de_tup (da_cons (de_ixK K (de_var 13) (de_var 17)) (da_cons (de_callK (D__law_low A) (hr.mono (by omega)) pass0 rfl (da_cons (de_ixK K (de_var 14) (de_var 17)) (da_cons (de_var 10) da_nil))) da_nil))) (nomark _))
            (db_one (ds_ret de_bl))
            db_nil)
          (db_cons (ds_set 18 sc_law.nd (de_ixK K (de_lc false [("layer", 24)] rfl sc_law.nd (di_range1 rfl A.b_range (da_cons (de_ixK K (de_var 4) de_int) da_nil)) (blkOk_by (by kernel_rfl)) (fun _ _ _ _ _ => (dg_name (vs := [24]) 24 (by decide) sc_law.nd)) (fun _ _ _ _ _ => (dts_one (dt_cmp (op_neK K hr.units) ro_ne (de_var 24) (de_var 11) (nomark _)))) (fun _ _ _ _ _ => (de_var 24))) de_int))
          (db_cons (ds_set 19 sc_law.nd (de_lst true (da_cons (de_cb (call_lenK K) roc_len rfl A.b_len (by decide +kernel) (da_cons (de_lc false [("row", 23)] rfl sc_law.nd (di_seqK K (de_var 9)) (blkOk_by (by kernel_rfl)) (fun _ _ _ _ _ => (dg_name (vs := [23]) 23 (by decide) sc_law.nd)) (fun _ _ _ _ _ => (dts_one (dt_cmp op_lt ro_IB (de_ixK K (de_var 23) (de_var 11)) (de_ixK K (de_var 23) (de_var 18)) (nomark _)))) (fun _ _ _ _ _ => (de_var 23))) da_nil)) (da_cons (de_cb (call_lenK K) roc_len rfl A.b_len (by decide +kernel) (da_cons (de_lc false [("row", 23)] rfl sc_law.nd (di_seqK K (de_var 9)) (blkOk_by (by kernel_rfl)) (fun _ _ _ _ _ => (dg_name (vs := [23]) 23 (by decide) sc_law.nd)) (fun _ _ _ _ _ => (dts_one (dt_cmp (op_eqK K hr.units) ro_eq (de_ixK K (de_var 23) (de_var 11)) (de_ixK K (de_var 23) (de_var 18)) (nomark _)))) (fun _ _ _ _ _ => (de_var 23))) da_nil)) da_nil))))
          (db_cons (ds_expr (de_bmK K PySem.F.plainAttrs_list PySem.F.slot_list_append PySem.F.type_list_append mt_append rm_append (de_var 19) (da_cons (de_op op_sub ro_I0 (de_var 10) (de_cb (cr_sumK K rfl) roc_sum rfl A.b_sum (by decide +kernel) (da_cons (de_var 19) da_nil))) da_nil)))
          (db_cons (ds_if (dt_cmp (op_neK K hr.units) ro_ne (de_callK (D_plan_pair A) (hr.mono (by omega)) pass0 rfl (da_cons (de_var 8) (da_cons (de_var 6) (da_cons (de_var 7) (da_cons (de_var 11) (da_cons (de_var 18) da_nil)))))) (de_ct (call_tupleK K) roc_tuple rfl A.b_tuple (by decide +kernel) (da_cons (de_lc false [("one", 16)] rfl sc_law.nd (di_seqK K (de_var 19)) (blkOk_by (by kernel_rfl)) (fun _ _ _ _ _ => (dg_name (vs := [16]) 16 (by decide) sc_law.nd)) (fun _ _ _ _ _ => dts_nil) (fun _ _ _ _ _ => (de_callK (D__law_low A) (hr.mono (by omega)) pass0 rfl (da_cons (de_var 16) (da_cons (de_var 10) da_nil))))) da_nil)) (nomark _))
            (db_one (ds_ret de_bl))
            db_nil)
          (db_one (ds_for (vs := [20, 21]) PassesOwn.never rfl (di_seqK K (de_ixK K (de_var 4) de_int)) (dg_tupK K (n := 2) rfl (dgs_cons (dg_name (vs := [20, 21]) 20 (by decide) sc_law.nd) (dgs_cons (dg_name (vs := [20, 21]) 21 (by decide) sc_law.nd) dgs_nil)))
            (db_cons (ds_par 16 22 rfl sc_law.nd (by decide) (da_cons (de_callK (D_plan_mean A) (hr.mono (by omega)) pass0 rfl (da_cons (de_var 8) (da_cons (de_var 6) (da_cons (de_var 7) (da_cons (de_var 20) da_nil))))) (da_cons (de_callK (D_plan_mean A) (hr.mono (by omega)) pass0 rfl (da_cons (de_var 8) (da_cons (de_var 6) (da_cons (de_var 7) (da_cons (de_var 21) da_nil))))) da_nil)))
            (db_one (ds_if (dt_w (dw_or (dt_cmp op_lt ro_IB (de_op (op_mulK K) (ro_mul false) (de_ixK K (de_var 16) de_int) (de_ixK K (de_var 22) de_int)) (de_op (op_mulK K) (ro_mul false) (de_ixK K (de_var 22) de_int) (de_ixK K (de_var 16) de_int)) (nomark _)) (dw_or1 (dt_w (dw_and (dt_val (de_var 7)) (dw_and1 (dt_cmp (op_eqK K hr.units) ro_eq (de_var 16) (de_var 22) (nomark _))))))))
              (db_one (ds_ret de_bl))
              db_nil))))))))))))))))
          db_nil)))))))))))
      (db_one (ds_ret de_bl)))))),
      ?_⟩)
  all_goals (
    rintro ds S Q Ed ⟨ns, rfl, no, q⟩
    simp! [handSp]
    refine ⟨ns, rfl, no, fun t ht => ?_⟩
    simp! [wMake]
    refine ⟨le_sz (by decide), le_sz (by decide), le_sz (by decide), le_sz (by decide), by decide, by decide, by decide, Nat.zero_le _, fun a0 h0 => make_bk (b := twoB) h0 twoB_ok.1 twoB_ok.2.2 fun d0 hd0 => ?_⟩
    have st0 : StL S t ((S.set t (.opq (opq2 JH))).set d0 (.dic [] [])) := ⟨(Sub.set ht).trans (Sub.set hd0), MS.set_t MS.set_same hd0⟩
    generalize (S.set t (.opq (opq2 JH))).set d0 (.dic [] []) = S1 at st0 ⊢
    have e1 : lowF ((evL twoB (1, 2) true).map fun r => r.getD 1 0).sum ((evL twoB (1, 2) true).length : Int) = (2, 1) := by decide +kernel
    have e2 : ([0, 1, 2].map fun m => lowF (cntP twoB (1, 2) false 0 1 m) ((evL twoB (1, 2) false).length : Int)) = [(1, 3), (2, 3), (0, 1)] := by decide +kernel
    have e3 : ([0, 1, 2].map fun m => frD (lowF (cntP twoB (1, 2) false 0 1 m) ((evL twoB (1, 2) false).length : Int))) = [.tup [.int 1, .int 3], .tup [.int 2, .int 3], .tup [.int 0, .int 1]] := by
      have := congrArg (List.map frD) e2
      rw [List.map_map] at this
      exact this
    refine ⟨le_sz (by decide), twoB, _, (1, 2), true, 1, rfl, twoB_ok, ⟨⟨by decide, by decide⟩, by decide, by decide⟩, by decide, ⟨by decide +kernel, by decide +kernel⟩, ?_⟩
    rw [e1]
    simp! [frD]
    refine ⟨le_sz (by decide), by decide +kernel, by decide +kernel, ite_any (fun h => absurd h (by decide +kernel)) (fun _ => ?_)⟩
    refine ⟨le_sz (by decide), twoB, _, (1, 2), false, 0, 1, rfl, twoB_ok, ⟨⟨by decide, by decide⟩, by decide, by decide⟩, by decide, by decide, by decide, ⟨by decide +kernel, by decide +kernel⟩, ?_⟩
    rw [e3]
    simp! []
    refine ⟨le_sz (by decide), le_sz (by decide), le_sz (by decide), le_sz (by decide), by decide +kernel, by decide +kernel, ite_any (fun h => absurd h (by decide +kernel)) (fun _ => ?_)⟩
    refine ⟨by decide, by decide, forW_n (fun i ρ S' => StL S t S' ∧ ∃ z0 z2 z3 z4 z5 z6 z7 z8 z9 z10 z11 z12 z13 z14 z15 z16 z17 z18 z19 z20 z21 z22 z23 z24, ρ = [z0, some (.ref t), z2, z3, z4, z5, z6, z7, z8, z9, z10, z11, z12, z13, z14, z15, z16, z17, z18, z19, z20, z21, z22, z23, z24]) (fun _ _ _ _ => trivial) (fun i d ρ S' hd h N0 hN0 => ?hs) (fun ρ S' h => ?hd) ⟨st0, _, _, _, _, _, _, _, _, _, _, _, _, _, _, _, _, _, _, _, _, _, _, _, _, rfl⟩⟩
    case hd =>
      obtain ⟨st, z0, z2, z3, z4, z5, z6, z7, z8, z9, z10, z11, z12, z13, z14, z15, z16, z17, z18, z19, z20, z21, z22, z23, z24, rfl⟩ := h
      simp! []
      exact outK.mk st.sb q
    case hs =>
      obtain ⟨st, z0, z2, z3, z4, z5, z6, z7, z8, z9, z10, z11, z12, z13, z14, z15, z16, z17, z18, z19, z20, z21, z22, z23, z24, rfl⟩ := h
      clear hd
      dsimp only [wgName]
      have nx : ∀ S2 ρ, StL S t S2 → (∃ z0 z2 z3 z4 z5 z6 z7 z8 z9 z10 z11 z12 z13 z14 z15 z16 z17 z18 z19 z20 z21 z22 z23 z24, ρ = [z0, some (.ref t), z2, z3, z4, z5, z6, z7, z8, z9, z10, z11, z12, z13, z14, z15, z16, z17, z18, z19, z20, z21, z22, z23, z24]) → N0 ρ S2 := fun S2 ρ h ⟨z0, z2, z3, z4, z5, z6, z7, z8, z9, z10, z11, z12, z13, z14, z15, z16, z17, z18, z19, z20, z21, z22, z23, z24, e⟩ => hN0 _ _ ⟨h, z0, z2, z3, z4, z5, z6, z7, z8, z9, z10, z11, z12, z13, z14, z15, z16, z17, z18, z19, z20, z21, z22, z23, z24, e⟩
      refine mergeQ (fun ρ S2 => ∃ b, (StL S t S2 ∧ bkP b ∧ 2 ≤ b.count) ∧ ∃ z0 z2 z3 z5 z6 z7 z8 z9 z10 z11 z12 z13 z14 z15 z16 z17 z18 z19 z20 z21 z22 z23 z24, ρ = [z0, some (.ref t), z2, z3, some (specD b), z5, z6, z7, z8, z9, z10, z11, z12, z13, z14, z15, z16, z17, z18, z19, z20, z21, z22, z23, z24]) (fun N hN => ?sa) (fun ρ S2 h => ?san)
      case sa =>
        simp_all! []
        refine ⟨t, 2, 4, true, false, rfl, st.gt, by decide, fun b hbc hb hz _ _ => ?_⟩
        exact hN _ _ ⟨b, ⟨st, ⟨hb, hbc.2, hz⟩, hbc.1⟩, _, _, _, _, _, _, _, _, _, _, _, _, _, _, _, _, _, _, _, _, _, _, _, rfl⟩
      case san =>
      obtain ⟨b, ⟨st, hb, hc2⟩, z0, z2, z3, z5, z6, z7, z8, z9, z10, z11, z12, z13, z14, z15, z16, z17, z18, z19, z20, z21, z22, z23, z24, rfl⟩ := h
      refine mergeQ (fun ρ S2 => ∃ x, (StL S t S2 ∧ -2 ≤ x ∧ x ≤ 4) ∧ ∃ z0 z2 z3 z6 z7 z8 z9 z10 z11 z12 z13 z14 z15 z16 z17 z18 z19 z20 z21 z22 z23 z24, ρ = [z0, some (.ref t), z2, z3, some (specD b), some (.int x), z6, z7, z8, z9, z10, z11, z12, z13, z14, z15, z16, z17, z18, z19, z20, z21, z22, z23, z24]) (fun N hN => ?sb) (fun ρ S2 h => ?sbn)
      case sb =>
        simp_all! [drawSp]
        refine ⟨st.gt, by decide, by decide, fun r h0 h1 => ?_⟩
        exact hN _ _ ⟨r - 2, ⟨st, by omega, by omega⟩, _, _, _, _, _, _, _, _, _, _, _, _, _, _, _, _, _, _, _, _, _, _, rfl⟩
      case sbn =>
      obtain ⟨x, ⟨st, hx⟩, z0, z2, z3, z6, z7, z8, z9, z10, z11, z12, z13, z14, z15, z16, z17, z18, z19, z20, z21, z22, z23, z24, rfl⟩ := h
      refine mergeQ (fun ρ S2 => ∃ (w : Int × Int) (s : Bool), (StL S t S2 ∧ winOk w) ∧ ∃ z0 z2 z3 z8 z9 z10 z11 z12 z13 z14 z15 z16 z17 z18 z19 z20 z21 z22 z23 z24, ρ = [z0, some (.ref t), z2, z3, some (specD b), some (.int x), some (pD w), some (.bl s), z8, z9, z10, z11, z12, z13, z14, z15, z16, z17, z18, z19, z20, z21, z22, z23, z24]) (fun N hN => ?sc) (fun ρ S2 h => ?scn)
      case sc =>
        simp_all! [wPar, drawSp]
        refine ⟨st.gt, by decide, by decide, fun r h0 h1 => ⟨le_sz (by decide), st.gt, by decide, by decide, fun r2 h2 h3 => ?_⟩⟩
        exact hN _ _ ⟨(x, x + r), decide (r2 = 0), ⟨st, by unfold winOk; dsimp only; omega⟩, _, _, _, _, _, _, _, _, _, _, _, _, _, _, _, _, _, _, _, _, rfl⟩
      case scn =>
      obtain ⟨w, s, ⟨st, hw⟩, z0, z2, z3, z8, z9, z10, z11, z12, z13, z14, z15, z16, z17, z18, z19, z20, z21, z22, z23, z24, rfl⟩ := h
      refine mergeQ (fun ρ S2 => ∃ d1, (StL S t S2) ∧ ∃ z0 z2 z3 z10 z11 z12 z13 z14 z15 z16 z17 z18 z19 z20 z21 z22 z23 z24, ρ = [z0, some (.ref t), z2, z3, some (specD b), some (.int x), some (pD w), some (.bl s), some (bkV b (.ref d1)), some (.lst ((evL b w s).map tupI)), z10, z11, z12, z13, z14, z15, z16, z17, z18, z19, z20, z21, z22, z23, z24]) (fun N hN => ?sd) (fun ρ S2 h => ?sdn)
      case sd =>
        simp_all! [specD, wMake]
        refine fun a ha => make_bk ha hb.1 hb.2.2 fun d1 hd1 => ?_
        refine ⟨b, w, s, rfl, hb, hw, le_sz (by decide), ?_⟩
        exact hN _ _ ⟨d1, st.put hd1, _, _, _, _, _, _, _, _, _, _, _, _, _, _, _, _, _, _, rfl⟩
      case sdn =>
      obtain ⟨d1, st, z0, z2, z3, z10, z11, z12, z13, z14, z15, z16, z17, z18, z19, z20, z21, z22, z23, z24, rfl⟩ := h
      refine mergeQ (fun ρ S2 => ∃ (l : Nat), (StL S t S2 ∧ l < b.count.toNat) ∧ ∃ z0 z2 z3 z12 z13 z14 z15 z16 z17 z18 z19 z20 z21 z22 z23 z24, ρ = [z0, some (.ref t), z2, z3, some (specD b), some (.int x), some (pD w), some (.bl s), some (bkV b (.ref d1)), some (.lst ((evL b w s).map tupI)), some (.int ((evL b w s).length : Int)), some (.int (l : Int)), z12, z13, z14, z15, z16, z17, z18, z19, z20, z21, z22, z23, z24]) (fun N hN => ?se) (fun ρ S2 h => ?sen)
      case se =>
        have hc4 := hb.2.1
        have hc1 := hb.1.1
        simp_all! [specD, drawSp]
        refine ⟨st.gt, by omega, by omega, fun r h0 h1 => ⟨le_sz (by decide), ?_⟩⟩
        rw [List.length_map, show r = ((r.toNat : Nat) : Int) by omega]
        exact hN _ _ ⟨r.toNat, ⟨st, by omega⟩, _, _, _, _, _, _, _, _, _, _, _, _, _, _, _, _, rfl⟩
      case sen =>
      obtain ⟨l, ⟨st, hl⟩, z0, z2, z3, z12, z13, z14, z15, z16, z17, z18, z19, z20, z21, z22, z23, z24, rfl⟩ := h
      refine mergeQ (fun ρ S2 => StL S t S2 ∧ ∃ z0 z2 z3 z12 z13 z14 z15 z16 z17 z18 z19 z20 z21 z22 z23 z24, ρ = [z0, some (.ref t), z2, z3, some (specD b), some (.int x), some (pD w), some (.bl s), some (bkV b (.ref d1)), some (.lst ((evL b w s).map tupI)), some (.int ((evL b w s).length : Int)), some (.int (l : Int)), z12, z13, z14, z15, z16, z17, z18, z19, z20, z21, z22, z23, z24]) (fun N hN => ?sf) (fun ρ S2 h => ?sfn)
      case sf =>
        simp_all! []
        refine ⟨b, _, w, s, rfl, hb, hw, _, rfl, true, rfl, ?_⟩
        rw [if_neg (by simp)]
        exact hN _ _ ⟨st, _, _, _, _, _, _, _, _, _, _, _, _, _, _, _, _, rfl⟩
      case sfn =>
      obtain ⟨st, z0, z2, z3, z12, z13, z14, z15, z16, z17, z18, z19, z20, z21, z22, z23, z24, rfl⟩ := h
      refine mergeQ (fun ρ S2 => ∃ (m : Nat), (StL S t S2 ∧ True) ∧ ∃ z0 z2 z3 z13 z14 z15 z16 z17 z18 z19 z20 z21 z22 z23 z24, ρ = [z0, some (.ref t), z2, z3, some (specD b), some (.int x), some (pD w), some (.bl s), some (bkV b (.ref d1)), some (.lst ((evL b w s).map tupI)), some (.int ((evL b w s).length : Int)), some (.int (l : Int)), some (.int (m : Int)), z13, z14, z15, z16, z17, z18, z19, z20, z21, z22, z23, z24]) (fun N hN => ?sg) (fun ρ S2 h => ?sgn)
      case sg =>
        have hn6 := evL_len (s := s) hb hw
        simp_all! [drawSp]
        refine ⟨st.gt, by omega, by omega, fun r h0 h1 => ?_⟩
        rw [show r = ((r.toNat : Nat) : Int) by omega]
        exact hN _ _ ⟨r.toNat, ⟨st, trivial⟩, _, _, _, _, _, _, _, _, _, _, _, _, _, _, _, rfl⟩
      case sgn =>
      obtain ⟨m, ⟨st, _⟩, z0, z2, z3, z13, z14, z15, z16, z17, z18, z19, z20, z21, z22, z23, z24, rfl⟩ := h
      refine mergeQ (fun ρ S2 => StL S t S2 ∧ ∃ z0 z2 z3 z13 z14 z15 z16 z17 z18 z19 z20 z21 z22 z23 z24, ρ = [z0, some (.ref t), z2, z3, some (specD b), some (.int x), some (pD w), some (.bl s), some (bkV b (.ref d1)), some (.lst ((evL b w s).map tupI)), some (.int ((evL b w s).length : Int)), some (.int (l : Int)), some (.int (m : Int)), z13, z14, z15, z16, z17, z18, z19, z20, z21, z22, z23, z24]) (fun N hN => ?sh) (fun ρ S2 h => ?shn)
      case sh =>
        simp! []
        refine ⟨b, _, w, s, m, rfl, hb, hw, ?_⟩
        simp! []
        refine ite_any (fun h => ?_) (fun h => ?_)
        · have h := of_decide_eq_true h
          obtain ⟨r, hr⟩ : ∃ r, (evL b w s)[m]? = some r := ⟨_, List.getElem?_eq_getElem (by omega)⟩
          rw [hr, z_ixg (show ((evL b w s).map tupI)[m]? = some (tupI r) from by rw [List.getElem?_map, hr]; rfl)]
          exact ⟨okD_row, okD_row, ite_any (eqD_no okD_row) (fun _ => hN _ _ ⟨st, _, _, _, _, _, _, _, _, _, _, _, _, _, _, _, rfl⟩)⟩
        · have h : ¬ ((m : Int) < ((evL b w s).length : Int)) := fun z => h (decide_eq_true z)
          rw [List.getElem?_eq_none (by omega)]
          exact ⟨(show okD D.non = true by decide +kernel), ite_any (eqD_no (show okD D.non = true by decide +kernel)) (fun _ => hN _ _ ⟨st, _, _, _, _, _, _, _, _, _, _, _, _, _, _, _, rfl⟩)⟩
      case shn =>
      obtain ⟨st, z0, z2, z3, z13, z14, z15, z16, z17, z18, z19, z20, z21, z22, z23, z24, rfl⟩ := h
      refine wIfS_i (decide ((0 : Int) < ((evL b w s).length : Int))) (fun Q h => ?si) (fun h => ?sj) (fun _ => nx _ _ st ⟨_, _, _, _, _, _, _, _, _, _, _, _, _, _, _, _, _, _, _, _, _, _, _, _, rfl⟩)
      case si =>
        simp! []
        exact h
      have hn : 0 < (evL b w s).length ∧ (evL b w s).length ≤ 10000 := ⟨by have := of_decide_eq_true h; omega, Nat.le_trans (evL_len hb hw) (by decide)⟩
      have np : (0 : Int) < ((evL b w s).length : Int) := of_decide_eq_true h
      clear h
      have hn6 := evL_len (s := s) hb hw
      have hc := fun t => cntT_le (b := b) (w := w) (s := s) (l := l) (t := t)
      obtain ⟨⟨hw1, hw2⟩, hw3, hw4⟩ := hw
      have hw : winOk w := ⟨⟨hw1, hw2⟩, hw3, hw4⟩
      refine mergeQ (fun ρ S2 => StL S t S2 ∧ ∃ z0 z2 z3 z14 z15 z16 z17 z18 z19 z20 z21 z22 z23 z24, ρ = [z0, some (.ref t), z2, z3, some (specD b), some (.int x), some (pD w), some (.bl s), some (bkV b (.ref d1)), some (.lst ((evL b w s).map tupI)), some (.int ((evL b w s).length : Int)), some (.int (l : Int)), some (.int (m : Int)), some (.lst ((rngI w.1 w.2).map D.int)), z14, z15, z16, z17, z18, z19, z20, z21, z22, z23, z24]) (fun N hN => ?i1) (fun ρ S2 h => ?i1n)
      case i1 =>
        simp_all! [pD]
        refine ⟨by unfold RgOk; omega, ?_⟩
        rw [rangeD_rng]
        exact hN _ _ ⟨st, _, _, _, _, _, _, _, _, _, _, _, _, _, _, rfl⟩
      case i1n =>
      obtain ⟨st, z0, z2, z3, z14, z15, z16, z17, z18, z19, z20, z21, z22, z23, z24, rfl⟩ := h
      refine mergeQ (fun ρ S2 => StL S t S2 ∧ ∃ z0 z2 z3 z15 z16 z17 z18 z19 z20 z21 z22 z23 z24, ρ = [z0, some (.ref t), z2, z3, some (specD b), some (.int x), some (pD w), some (.bl s), some (bkV b (.ref d1)), some (.lst ((evL b w s).map tupI)), some (.int ((evL b w s).length : Int)), some (.int (l : Int)), some (.int (m : Int)), some (.lst ((rngI w.1 w.2).map D.int)), some (.lst ((rngI w.1 w.2).map fun t => D.int (cntT b w s l t))), z15, z16, z17, z18, z19, z20, z21, z22, z23, z24]) (fun N hN => ?i2) (fun ρ S2 h => ?i2n)
      case i2 =>
        simp_all! []
        refine compL_mm (fun t => D.int (cntT b w s l t)) noG_any (le_sz (by rw [rngI_len]; omega)) (fun t ht S3 sub N2 hN2 => ?_) (hN _ _ ⟨st, _, _, _, _, _, _, _, _, _, _, _, _, _, rfl⟩)
        simp! []
        refine compL_fm (h := tupI) (fun r => decide (r.getD l 0 = t)) noG_any (le_sz (by omega)) (fun r hr S4 sub4 N3 M3 hN3 hM3 => ?_) ?_
        · simp! [tupI]
          refine (z_ixtg (row_get hb hr hl)).mpr ?_
          simp! []
          exact ite_bl hN3 hM3
        · simp! []
          rw [List.length_map]
          exact hN2
      case i2n =>
      obtain ⟨st, z0, z2, z3, z15, z16, z17, z18, z19, z20, z21, z22, z23, z24, rfl⟩ := h
      refine mergeQ (fun ρ S2 => StL S t S2 ∧ ∃ z0 z2 z3 z15 z16 z17 z18 z19 z20 z21 z22 z23 z24, ρ = [z0, some (.ref t), z2, z3, some (specD b), some (.int x), some (pD w), some (.bl s), some (bkV b (.ref d1)), some (.lst ((evL b w s).map tupI)), some (.int ((evL b w s).length : Int)), some (.int (l : Int)), some (.int (m : Int)), some (.lst ((rngI w.1 w.2).map D.int)), some (.lst ((rngI w.1 w.2).map fun t => D.int (cntT b w s l t))), z15, z16, z17, z18, z19, z20, z21, z22, z23, z24]) (fun N hN => ?i3) (fun ρ S2 h => ?i3n)
      case i3 =>
        simp_all! []
        refine ⟨b, _, w, s, l, rfl, hb, hw, hl, hn, ?_⟩
        refine compL_mm (f := fun t => D.int (cntT b w s l t)) (fun t => frD (lowF (cntT b w s l t) ((evL b w s).length : Int))) noG_any (le_sz (by rw [rngI_len]; omega)) (fun t ht S3 sub N2 hN2 => ?_) ?_
        · simp! []
          exact ⟨_, _, rfl, ⟨np, by omega⟩, hN2⟩
        · simp! []
          exact ⟨okD_frs, okD_frs, ite_any (eqD_no okD_frs) (fun _ => hN _ _ ⟨st, _, _, _, _, _, _, _, _, _, _, _, _, _, rfl⟩)⟩
      case i3n =>
      obtain ⟨st, z0, z2, z3, z15, z16, z17, z18, z19, z20, z21, z22, z23, z24, rfl⟩ := h
      refine mergeQ (fun ρ S2 => StL S t S2 ∧ ∃ z0 z2 z3 z15 z16 z17 z18 z19 z20 z21 z22 z23 z24, ρ = [z0, some (.ref t), z2, z3, some (specD b), some (.int x), some (pD w), some (.bl s), some (bkV b (.ref d1)), some (.lst ((evL b w s).map tupI)), some (.int ((evL b w s).length : Int)), some (.int (l : Int)), some (.int (m : Int)), some (.lst ((rngI w.1 w.2).map D.int)), some (.lst ((rngI w.1 w.2).map fun t => D.int (cntT b w s l t))), z15, z16, z17, z18, z19, z20, z21, z22, z23, z24]) (fun N hN => ?i4) (fun ρ S2 h => ?i4n)
      case i4 =>
        simp_all! []
        refine forW_n (fun i ρ S3 => S3 = S2 ∧ ∃ z0 z2 z3 z15 z16 z17 z18 z19 z20 z21 z22 z23 z24, ρ = [z0, some (.ref t), z2, z3, some (specD b), some (.int x), some (pD w), some (.bl s), some (bkV b (.ref d1)), some (.lst ((evL b w s).map tupI)), some (.int ((evL b w s).length : Int)), some (.int (l : Int)), some (.int (m : Int)), some (.lst ((rngI w.1 w.2).map D.int)), some (.lst ((rngI w.1 w.2).map fun t => D.int (cntT b w s l t))), z15, z16, z17, z18, z19, z20, z21, z22, z23, z24]) (fun _ _ _ _ => trivial) (fun i d ρ S3 hd h M hM => ?hs4) (fun ρ S3 h => ?hd4) ⟨rfl, _, _, _, _, _, _, _, _, _, _, _, _, _, rfl⟩
        case hd4 =>
          obtain ⟨rfl, z0, z2, z3, z15, z16, z17, z18, z19, z20, z21, z22, z23, z24, rfl⟩ := h
          exact hN _ _ ⟨st, _, _, _, _, _, _, _, _, _, _, _, _, _, rfl⟩
        case hs4 =>
          obtain ⟨rfl, z0, z2, z3, z15, z16, z17, z18, z19, z20, z21, z22, z23, z24, rfl⟩ := h
          have hi : i < (rngI w.1 w.2).length := by
            have := (List.getElem?_eq_some_iff.mp hd).1
            rw [zipD_length, List.length_map, List.length_map, Nat.min_self] at this
            exact this
          have ht : (rngI w.1 w.2)[i]? = some (w.1 + (i : Int)) := rngI_get (by rw [rngI_len] at hi; exact hi)
          have hd := Option.some.inj ((zipD_get (xs := (rngI w.1 w.2).map D.int) (ys := (rngI w.1 w.2).map fun t => D.int (cntT b w s l t)) (by rw [List.getElem?_map, ht]; rfl) (by rw [List.getElem?_map, ht]; rfl)).symm.trans hd)
          subst hd
          simp! []
          refine ⟨b, _, w, s, l, _, rfl, hb, hw, hl, hn, _, _, rfl, ⟨np, by omega⟩, ?_⟩
          exact ⟨okD_fr, okD_fr, ite_any (eqD_no okD_fr) (fun _ => hM _ _ ⟨rfl, _, _, _, _, _, _, _, _, _, _, _, _, _, rfl⟩)⟩
      case i4n =>
      obtain ⟨st, z0, z2, z3, z15, z16, z17, z18, z19, z20, z21, z22, z23, z24, rfl⟩ := h
      refine mergeQ (fun ρ S2 => StL S t S2 ∧ ∃ z0 z2 z3 z15 z16 z17 z18 z19 z20 z21 z22 z23 z24, ρ = [z0, some (.ref t), z2, z3, some (specD b), some (.int x), some (pD w), some (.bl s), some (bkV b (.ref d1)), some (.lst ((evL b w s).map tupI)), some (.int ((evL b w s).length : Int)), some (.int (l : Int)), some (.int (m : Int)), some (.lst ((rngI w.1 w.2).map D.int)), some (.lst ((rngI w.1 w.2).map fun t => D.int (cntT b w s l t))), z15, z16, z17, z18, z19, z20, z21, z22, z23, z24]) (fun N hN => ?i5) (fun ρ S2 h => ?i5n)
      case i5 =>
        simp_all! []
        refine ⟨b, _, w, s, l, rfl, hb, hw, hl, hn, ?_⟩
        refine compL_mm (f := tupI) (fun r => D.int (r.getD l 0)) noG_any (le_sz (by omega)) (fun r hr S3 sub N2 hN2 => ?_) ?_
        · simp! [tupI]
          exact (z_ixtg (row_get hb hr hl)).mpr hN2
        · refine ⟨(evL b w s).map fun r => r.getD l 0, by rw [List.map_map]; rfl, _, _, rfl, ⟨np, by omega⟩, okD_fr, okD_fr, ite_any (eqD_no okD_fr) (fun _ => hN _ _ ⟨st, _, _, _, _, _, _, _, _, _, _, _, _, _, rfl⟩)⟩
      case i5n =>
      obtain ⟨st, z0, z2, z3, z15, z16, z17, z18, z19, z20, z21, z22, z23, z24, rfl⟩ := h
      refine mergeQ (fun ρ S2 => ∃ (k : Nat), (StL S t S2 ∧ k < (rngI w.1 w.2).length ∧ (∀ j < (rngI w.1 w.2).length, cntT b w s l (w.1 + (j : Int)) ≤ cntT b w s l (w.1 + (k : Int))) ∧ (∀ j < k, cntT b w s l (w.1 + (j : Int)) < cntT b w s l (w.1 + (k : Int)))) ∧ ∃ z0 z2 z3 z15 z16 z18 z19 z20 z21 z22 z23 z24, ρ = [z0, some (.ref t), z2, z3, some (specD b), some (.int x), some (pD w), some (.bl s), some (bkV b (.ref d1)), some (.lst ((evL b w s).map tupI)), some (.int ((evL b w s).length : Int)), some (.int (l : Int)), some (.int (m : Int)), some (.lst ((rngI w.1 w.2).map D.int)), some (.lst ((rngI w.1 w.2).map fun t => D.int (cntT b w s l t))), z15, z16, some (.int (k : Int)), z18, z19, z20, z21, z22, z23, z24]) (fun N hN => ?i6) (fun ρ S2 h => ?i6n)
      case i6 =>
        simp_all! []
        obtain ⟨c, cs, hcs⟩ : ∃ c cs, (rngI w.1 w.2).map (fun t => cntT b w s l t) = c :: cs := by
          cases e : (rngI w.1 w.2).map (fun t => cntT b w s l t) with
          | nil =>
            have := congrArg List.length e
            rw [List.length_map, rngI_len, List.length_nil] at this
            omega
          | cons c cs => exact ⟨c, cs, rfl⟩
        have hmm : List.map (fun t => D.int (cntT b w s l t)) (rngI w.1 w.2) = (c :: cs).map D.int := by rw [← hcs, List.map_map]; rfl
        have fm := first_max hcs
        refine cMax_enc EnO.int (by decide) (.inl (congrArg D.lst hmm)) ?_
        refine ⟨c :: cs, _, congrArg D.lst hmm, rfl, maxB_mem cs c, ?_⟩
        exact hN _ _ ⟨_, ⟨st, fm.1, fm.2.1, fm.2.2⟩, _, _, _, _, _, _, _, _, _, _, _, _, rfl⟩
      case i6n =>
      obtain ⟨k, ⟨st, hk, hk1, hk2⟩, z0, z2, z3, z15, z16, z18, z19, z20, z21, z22, z23, z24, rfl⟩ := h
      refine mergeQ (fun ρ S2 => StL S t S2 ∧ ∃ z0 z2 z3 z15 z16 z18 z19 z20 z21 z22 z23 z24, ρ = [z0, some (.ref t), z2, z3, some (specD b), some (.int x), some (pD w), some (.bl s), some (bkV b (.ref d1)), some (.lst ((evL b w s).map tupI)), some (.int ((evL b w s).length : Int)), some (.int (l : Int)), some (.int (m : Int)), some (.lst ((rngI w.1 w.2).map D.int)), some (.lst ((rngI w.1 w.2).map fun t => D.int (cntT b w s l t))), z15, z16, some (.int (k : Int)), z18, z19, z20, z21, z22, z23, z24]) (fun N hN => ?i7) (fun ρ S2 h => ?i7n)
      case i7 =>
        simp_all! []
        refine ⟨b, _, w, s, l, rfl, hb, hw, hl, hn, fun k2 g1 g2 g3 => ?_⟩
        have ek := first_uniq hk hk1 hk2 g1 g2 g3
        subst ek
        have ht : (rngI w.1 w.2)[k2]? = some (w.1 + (k2 : Int)) := rngI_get (by rw [rngI_len] at hk; exact hk)
        refine (z_ixg (show ((rngI w.1 w.2).map D.int)[k2]? = some (.int (w.1 + (k2 : Int))) from by rw [List.getElem?_map, ht]; rfl)).mpr ((z_ixg (show ((rngI w.1 w.2).map fun t => D.int (cntT b w s l t))[k2]? = some (.int (cntT b w s l (w.1 + (k2 : Int)))) from by rw [List.getElem?_map, ht]; rfl)).mpr ?_)
        have ok : ∀ p i, okD (.tup [.int i, frD p]) = true := fun p i => okL_mono (n := 2) (okL_tup (n := 1) fun d hd => by
          simp only [List.mem_cons, List.not_mem_nil, or_false] at hd
          rcases hd with rfl | rfl
          · exact okL_int
          · exact okL_fr) (by decide)
        exact ⟨_, _, rfl, ⟨np, by omega⟩, le_sz (by decide), ok _ _, ok _ _, ite_any (eqD_no (ok _ _)) (fun _ => hN _ _ ⟨st, _, _, _, _, _, _, _, _, _, _, _, _, rfl⟩)⟩
      case i7n =>
      obtain ⟨st, z0, z2, z3, z15, z16, z18, z19, z20, z21, z22, z23, z24, rfl⟩ := h
      refine mergeQ (fun ρ S2 => ∃ (l2 : Nat), (StL S t S2 ∧ l2 < b.count.toNat ∧ l ≠ l2) ∧ ∃ z0 z2 z3 z15 z16 z19 z20 z21 z22 z23 z24, ρ = [z0, some (.ref t), z2, z3, some (specD b), some (.int x), some (pD w), some (.bl s), some (bkV b (.ref d1)), some (.lst ((evL b w s).map tupI)), some (.int ((evL b w s).length : Int)), some (.int (l : Int)), some (.int (m : Int)), some (.lst ((rngI w.1 w.2).map D.int)), some (.lst ((rngI w.1 w.2).map fun t => D.int (cntT b w s l t))), z15, z16, some (.int (k : Int)), some (.int (l2 : Int)), z19, z20, z21, z22, z23, z24]) (fun N hN => ?i8) (fun ρ S2 h => ?i8n)
      case i8 =>
        have hc4 := hb.2.1
        have hc1 := hb.1.1
        simp_all! [specD]
        refine ⟨by omega, by omega, ?_⟩
        rw [rangeD_ranI]
        refine compL_fm (h := D.int) (fun x => !decide (x = (l : Int))) noG_any (le_sz (by rw [ranI_length]; omega)) (fun x hx S4 sub4 N3 M3 hN3 hM3 => ?_) ?_
        · simp! []
          exact ite_bl hN3 hM3
        obtain ⟨x, xs, hx⟩ : ∃ x xs, (ranI b.count).filter (fun x => !decide (x = (l : Int))) = x :: xs := by
          cases e : (ranI b.count).filter (fun x => !decide (x = (l : Int))) with
          | cons x xs => exact ⟨x, xs, rfl⟩
          | nil =>
            rw [List.filter_eq_nil_iff] at e
            have h0 := e 0 (ranI_mem.mpr (by omega))
            have h1 := e 1 (ranI_mem.mpr (by omega))
            simp at h0 h1
            omega
        have hm : x ∈ (ranI b.count).filter (fun x => !decide (x = (l : Int))) := by rw [hx]; exact List.mem_cons_self
        obtain ⟨hm1, hm2⟩ := List.mem_filter.mp hm
        have hm1 := ranI_mem.mp hm1
        have hm2 : ¬ x = (l : Int) := by simpa using hm2
        rw [hx, show x = ((x.toNat : Nat) : Int) by omega]
        simp! []
        exact hN _ _ ⟨x.toNat, ⟨st, by omega, by omega⟩, _, _, _, _, _, _, _, _, _, _, _, rfl⟩
      case i8n =>
      obtain ⟨l2, ⟨st, hl2, hne⟩, z0, z2, z3, z15, z16, z19, z20, z21, z22, z23, z24, rfl⟩ := h
      refine mergeQ (fun ρ S2 => ∃ (a3 : Addr), (StL S t S2 ∧ S a3 = none ∧ S2 a3 = some (.lst [.int (cntP b w s l l2 0), .int (cntP b w s l l2 1)])) ∧ ∃ z0 z2 z3 z15 z16 z20 z21 z22 z23 z24, ρ = [z0, some (.ref t), z2, z3, some (specD b), some (.int x), some (pD w), some (.bl s), some (bkV b (.ref d1)), some (.lst ((evL b w s).map tupI)), some (.int ((evL b w s).length : Int)), some (.int (l : Int)), some (.int (m : Int)), some (.lst ((rngI w.1 w.2).map D.int)), some (.lst ((rngI w.1 w.2).map fun t => D.int (cntT b w s l t))), z15, z16, some (.int (k : Int)), some (.int (l2 : Int)), some (.ref a3), z20, z21, z22, z23, z24]) (fun N hN => ?i9) (fun ρ S2 h => ?i9n)
      case i9 =>
        simp_all! []
        refine compL_fm (h := tupI) (fun r => decide (r.getD l 0 < r.getD l2 0)) noG_any (le_sz (by omega)) (fun r hr S4 sub4 N3 M3 hN3 hM3 => ?_) ?_
        · simp! [tupI]
          refine (z_ixtg (row_get hb hr hl)).mpr ((z_ixtg (row_get hb hr hl2)).mpr ?_)
          simp! []
          exact ite_bl hN3 hM3
        simp! []
        refine compL_fm (h := tupI) (fun r => decide (r.getD l 0 = r.getD l2 0)) noG_any (le_sz (by omega)) (fun r hr S4 sub4 N3 M3 hN3 hM3 => ?_) ?_
        · simp! [tupI]
          refine (z_ixtg (row_get hb hr hl)).mpr ((z_ixtg (row_get hb hr hl2)).mpr ?_)
          simp! []
          exact ite_bl hN3 hM3
        simp! []
        refine ⟨le_sz (by decide), fun a3 h3 => hN _ _ ⟨a3, ⟨st.put h3, st.sb.none h3, ?_⟩, _, _, _, _, _, _, _, _, _, _, rfl⟩⟩
        rw [MS.set_same, List.length_map, List.length_map, cntP_0, cntP_1]
      case i9n =>
      obtain ⟨a3, ⟨st, hS3, h3⟩, z0, z2, z3, z15, z16, z20, z21, z22, z23, z24, rfl⟩ := h
      refine mergeQ (fun ρ S2 => StL S t S2 ∧ S2 a3 = some (.lst (csD (cntP b w s l l2))) ∧ ∃ z0 z2 z3 z15 z16 z20 z21 z22 z23 z24, ρ = [z0, some (.ref t), z2, z3, some (specD b), some (.int x), some (pD w), some (.bl s), some (bkV b (.ref d1)), some (.lst ((evL b w s).map tupI)), some (.int ((evL b w s).length : Int)), some (.int (l : Int)), some (.int (m : Int)), some (.lst ((rngI w.1 w.2).map D.int)), some (.lst ((rngI w.1 w.2).map fun t => D.int (cntT b w s l t))), z15, z16, some (.int (k : Int)), some (.int (l2 : Int)), some (.ref a3), z20, z21, z22, z23, z24]) (fun N hN => ?i10) (fun ρ S2 h => ?i10n)
      case i10 =>
        simp_all! [rd_ref h3, wAppend]
        refine ⟨[cntP b w s l l2 0, cntP b w s l l2 1], rfl, ?_⟩
        simp! []
        refine ⟨_, h3, lt_sz (show 2 < 1000000 by decide), hN _ _ ⟨⟨st.sb.set2 hS3, ?_⟩, ?_, _, _, _, _, _, _, _, _, _, _, rfl⟩⟩
        · rw [MS.set_ne (fun e => by have := st.gt; rw [e, h3] at this; cases this)]
          exact st.gt
        · rw [MS.set_same, cntP_2]
          rfl
      case i10n =>
      obtain ⟨st, h3, z0, z2, z3, z15, z16, z20, z21, z22, z23, z24, rfl⟩ := h
      refine mergeQ (fun ρ S2 => StL S t S2 ∧ ∃ z0 z2 z3 z15 z16 z20 z21 z22 z23 z24, ρ = [z0, some (.ref t), z2, z3, some (specD b), some (.int x), some (pD w), some (.bl s), some (bkV b (.ref d1)), some (.lst ((evL b w s).map tupI)), some (.int ((evL b w s).length : Int)), some (.int (l : Int)), some (.int (m : Int)), some (.lst ((rngI w.1 w.2).map D.int)), some (.lst ((rngI w.1 w.2).map fun t => D.int (cntT b w s l t))), z15, z16, some (.int (k : Int)), some (.int (l2 : Int)), some (.ref a3), z20, z21, z22, z23, z24]) (fun N hN => ?i11) (fun ρ S2 h => ?i11n)
      case i11 =>
        simp_all! []
        refine ⟨b, _, w, s, l, l2, rfl, hb, hw, hl, hl2, hne, hn, ?_⟩
        simp! [z_items_ref h3]
        have okF : okD (.tup ([0, 1, 2].map fun m => frD (lowF (cntP b w s l l2 m) ((evL b w s).length : Int)))) = true := okD_frs
        refine compL_mm (l := [0, 1, 2]) (f := fun m => D.int (cntP b w s l l2 m)) (fun m => frD (lowF (cntP b w s l l2 m) ((evL b w s).length : Int))) (fun S3 sub => sub _ _ h3) (le_sz (by decide)) (fun m hm S3 sub N2 hN2 => ?_) ?_
        · simp! []
          exact ⟨_, _, rfl, ⟨np, by omega⟩, hN2⟩
        · exact ⟨okF, okF, ite_any (eqD_no okF) (fun _ => hN _ _ ⟨st, _, _, _, _, _, _, _, _, _, _, rfl⟩)⟩
      case i11n =>
      obtain ⟨st, z0, z2, z3, z15, z16, z20, z21, z22, z23, z24, rfl⟩ := h
      have np2 := np
      simp_all! [specD]
      refine forW_n (fun i ρ S3 => S3 = S2 ∧ ∃ z0 z2 z3 z15 z16 z20 z21 z22 z23 z24, ρ = [z0, some (.ref t), z2, z3, some (specD b), some (.int x), some (pD w), some (.bl s), some (bkV b (.ref d1)), some (.lst ((evL b w s).map tupI)), some (.int ((evL b w s).length : Int)), some (.int (l : Int)), some (.int (m : Int)), some (.lst ((rngI w.1 w.2).map D.int)), some (.lst ((rngI w.1 w.2).map fun t => D.int (cntT b w s l t))), z15, z16, some (.int (k : Int)), some (.int (l2 : Int)), some (.ref a3), z20, z21, z22, z23, z24]) (fun _ _ _ _ => trivial) (fun i d ρ S3 hd h M hM => ?hs4) (fun ρ S3 h => ?hd4) ⟨rfl, _, _, _, _, _, _, _, _, _, _, rfl⟩
      case hd4 =>
        obtain ⟨rfl, z0, z2, z3, z15, z16, z20, z21, z22, z23, z24, rfl⟩ := h
        exact nx _ _ st ⟨_, _, _, _, _, _, _, _, _, _, _, _, _, _, _, _, _, _, _, _, _, _, _, _, rfl⟩
      case hs4 =>
        obtain ⟨rfl, z0, z2, z3, z15, z16, z20, z21, z22, z23, z24, rfl⟩ := h
        obtain ⟨r, hr, rfl⟩ := map_get hd
        obtain ⟨x9, y9, rfl, g1, g2, g3⟩ := hb.1.2.1.1 r (List.mem_of_getElem? hr)
        obtain ⟨i1, rfl⟩ : ∃ a : Nat, x9 = a := ⟨x9.toNat, by omega⟩
        obtain ⟨i2, rfl⟩ : ∃ a : Nat, y9 = a := ⟨y9.toNat, by omega⟩
        have so := ev_over (w := w) (s := s) hb.1 (List.mem_of_getElem? hr)
        simp! [tupI, wPar]
        refine ⟨b, _, w, s, i1, rfl, hb, hw, by omega, hn, b, _, w, s, i2, rfl, hb, hw, by omega, hn, ?_⟩
        have bs1 := ev_sums (b := b) (s := s) (l := i1) hw hn.2 (rngI w.1 w.2).length
        rw [List.take_length, mean_sum hb hw (by omega)] at bs1
        have bs2 := ev_sums (b := b) (s := s) (l := i2) hw hn.2 (rngI w.1 w.2).length
        rw [List.take_length, mean_sum hb hw (by omega)] at bs2
        have f1 := lowF_ok (x := ((evL b w s).map fun r => r.getD i1 0).sum) (y := ((evL b w s).length : Int)) (by omega) (by omega)
        have f2 := lowF_ok (x := ((evL b w s).map fun r => r.getD i2 0).sum) (y := ((evL b w s).length : Int)) (by omega) (by omega)
        have l1 := lowF_lt (a := ((evL b w s).map fun r => r.getD i1 0).sum) (b := ((evL b w s).map fun r => r.getD i2 0).sum) np
        have l2' := lowF_lt (a := ((evL b w s).map fun r => r.getD i2 0).sum) (b := ((evL b w s).map fun r => r.getD i1 0).sum) np
        unfold frOk at f1 f2
        have s0 : 0 ≤ stI s * ((evL b w s).length : Int) := Int.mul_nonneg (by unfold stI; split <;> decide) (by omega)
        simp! [frD]
        refine ⟨.inl ⟨by omega, by omega⟩, .inl ⟨by omega, by omega⟩, ite_any (fun h => ?_) (fun _ => ite_any (fun hs => ?_) (fun _ => hM _ _ ⟨rfl, _, _, _, _, _, _, _, _, _, _, rfl⟩))⟩
        · have h := l1.mp (of_decide_eq_true h)
          omega
        · refine ⟨okD_fr, okD_fr, ite_any (fun h => ?_) (fun _ => hM _ _ ⟨rfl, _, _, _, _, _, _, _, _, _, _, rfl⟩)⟩
          have h : eqD (D.tup (List.map D.int [(lowF ((evL b w s).map fun r => r.getD i1 0).sum ((evL b w s).length : Int)).1, (lowF ((evL b w s).map fun r => r.getD i1 0).sum ((evL b w s).length : Int)).2])) (D.tup (List.map D.int [(lowF ((evL b w s).map fun r => r.getD i2 0).sum ((evL b w s).length : Int)).1, (lowF ((evL b w s).map fun r => r.getD i2 0).sum ((evL b w s).length : Int)).2])) = true := h
          rw [eqD_intsT, decide_eq_true_eq, pair_eq] at h
          rw [h.1, h.2] at l2'
          rw [show stI s = 1 from by rw [hs]; rfl, Int.one_mul] at so
          have := l2'.mpr (by omega)
          omega)
theorem D_law (A : Al K mg) : Def P w K mg base CX0 14 "law" ["script"] sp_law := by
  obtain ⟨f, fd, Fu, hm, hb⟩ := fu_law A
  exact ⟨f, fd, O_law A Fu, hm, Fu.kp, hb⟩
theorem L_law (A : Al K mg) : ∃ f fd, mg "law" = some (.ref f) ∧ (∀ (s : Shared) (u : Value), BindsTo s fd ⟨[u], []⟩ [("script", u)]) ∧ ∀ base : Heap, FnG P w K mg base CX0 14 f fd ["script"] (spD K sp_law) := by
  obtain ⟨fd, F⟩ := A.says.def_ 37 (d := d_law) rfl
  exact ⟨_, fd, A.g_law, fun s v => FunD.bindsA (ps := ["script"]) F (fun _ _ _ _ _ _ us hl => match us, hl with | [_], _ => rfl) s [v] rfl, fun base => O_law A F⟩
end
theorem law_ok (ds : List D) (S : MS) (Q : KV2) (E : DXC) : lawSp 63 ds S Q E → sp_law ds S Q E := by
  rintro ⟨ns, rfl, _, h, q⟩
  exact ⟨ns, rfl, (fun a m e => by rw [h a] at e; cases e), q⟩
abbrev R : PySem.W.OpenRow := PySem.W.OpenLaw.row PySem.Challenge.rw_layertold_k89_whole_plans_as_likely_as_t
abbrev hk : PySem.W.Hook := hookN 4 fa fn
def ob (s : PySem.W.SharedT) : He.AlD := obsN 4 fa fn (HandSHeadRun.getT s)
theorem ob_eq (s : PySem.W.SharedT) : ob s = hk.obs s.abs := obsN_eq (HandSHeadRun.getT_eq s)
def loose0 : List PySem.Str := ["is_integer", "is_within", "is_number", "is_tuple", "is_lot", "lowest", "EarthError", "BadBook", "NoLayer", "NoNumber", "NoTime", "TooMany", "NoWindow", "NoFlag", "NonePlanned", "is_pair", "are_overs", "is_bound", "is_date", "is_kind", "Book", "is_window", "check_window", "check_small", "Planner", "many_plans", "plan_at", "plan_chance", "common", "reduced"]
def loose1 : List PySem.Str := ["plus", "product", "planner_for", "shares_in", "plan_times", "plan_mean", "with_both", "plan_pair", "likeliest_plan_time", "_law_hand", "_law_draw", "_law_any", "_law_is", "_law_mixed", "_law_orders", "_law_parts", "_law_fits", "_law_fitting", "_law_unlike", "_law_plans", "_law_low", "MOST_LAYERS", "MOST_KINDS", "FARTHEST", "MOST_PLANNED", "FARTHEST_TIME", "WIDEST"]
def loose : List PySem.Str := loose0 ++ loose1
theorem run (w : World) : HandSHeadRun.RunEq R (PySem.W.view R.prog [64]) hk ob 8000 loose w := by
  intro os
  kernel_rfl
end W89
open PySem PySem.W PySem.Calls PyProof.Rows
theorem PySem.Challenge.cw_layertold_k89_whole_plans_as_likely_as_t_holds : PySem.Challenge.rw_layertold_k89_whole_plans_as_likely_as_t.Holds := by
  w_on; o_law
  refine HandSHeadRun.head_any (r := OpenLaw.row PySem.Challenge.rw_layertold_k89_whole_plans_as_likely_as_t) (q := view (OpenLaw.row PySem.Challenge.rw_layertold_k89_whole_plans_as_likely_as_t).prog [64]) (H := W89.hk) (ob := W89.ob) (M := 8000) (loose := W89.loose) (d := HandSHeadRun.topDef (OpenLaw.row PySem.Challenge.rw_layertold_k89_whole_plans_as_likely_as_t).prog 64) (kwd := []) W89.ob_eq
    (by kernel_rfl) (fun s => by kernel_rfl) W89.run (by kernel_rfl) (by kernel_rfl) (by kernel_rfl) (by rfl) (by first | assumption | decide +kernel) (by decide +kernel) ⟨rfl, rfl, rfl, rfl, rfl, by decide +kernel⟩ ?hw ?hc
  case hw => w_witness2
  case hc => exact DL.walk_law (l := PySem.Challenge.rw_layertold_k89_whole_plans_as_likely_as_t) (n := 63) (k := 14) (sp := W89.sp_law) rfl (by decide) (by kernel_rfl) ⟨rfl, by decide, by decide⟩ (by kernel_rfl) W89.law_ok fun w K mg h X G c => W89.L_law ⟨c, ⟨h, X, G⟩⟩
