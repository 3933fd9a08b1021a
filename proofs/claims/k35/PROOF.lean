import PyProof.Rows.All
import Wide.All
import OpenK.AllK
import Wide.FinOn
import HandS.ForMost
import HandS.WordsExc
import HandS.Exc
import HandS.HeadHook1
import HandS.TupAny
import HandS.TupMul
import HandS.List
import KE.KRevSl
import HandS.Walk
import HandS.Flow
import HandS.Ends
import HandS.HeadEnd
import HandS.Defaults
import HandS.Style
import HandS.SortInts
import HandS.IsInst
import HandS.Conv
import HandS.Wide
import HandS.Zip
import KE.GoesEnum
import KE.GoesMore
import HandS.SortKw
import HandS.Dict
import HandS.Head0
import HandS.Head1
import HandS.Head2
import HandS.HeadHook2
import HandS.ClsMeth
import HandS.Deep
import KE.KIndexOf
import KE.SortData
import PyProof.ReprRoads
import PySem.Challenge.RW_layertold_k35_whole_same_sayings_and_wha
set_option Elab.async false
set_option linter.all false
set_option maxRecDepth 100000
set_option maxHeartbeats 4000000
/-! DL1: data D by value, the store MS of what may change, and how both lie in the layer's abstract heap; expressions. -/
namespace DL
open PySem PySem.Spec PyProof.Rows L2
inductive D where
  | non | bl (b : Bool) | int (i : Int) | str (x : Str)
  | tup (xs : List D) | lst (xs : List D)
  | dic (ks : List Key) (xs : List D)
  | obj (C : Str) (ns : List Str) (xs : List D)
  | ref (a : Addr)
  | wtup (xs : List D)
/-- a tuple that has no dict of its own -/
def TupAt (K : PySem.W.Frag) (F : Hp) (a : Addr) (vs : List V) : Prop :=
  (∃ o, F a = some (.frz o (.tup vs)) ∧ o.dict = none) ∨
    ∃ (o : Obj) (its : Array Value) (n : Nat), K.lookup a = some o ∧ o.cls = .type "tuple" ∧ o.data = .seq its n ∧ its.size ≤ sizeLine ∧ Vals vs its.toList ∧ o.dict = none
theorem TupAt.sq {K : PySem.W.Frag} {F : Hp} {a : Addr} {vs : List V} (h : TupAt K F a vs) : SqT K F a vs := by
  rcases h with ⟨o, h, _⟩ | ⟨o, its, n, h1, h2, h3, h4, h5, _⟩
  · exact .inl (.inr ⟨o, h⟩)
  · exact .inr ⟨o, its, n, h1, h2, h3, h4, h5⟩
mutual
/-- a datum by value, in the part of the heap that never changes any more -/
inductive Rep (K : PySem.W.Frag) (F : Hp) : D → V → Prop
  | non : Rep K F .non .non
  | bl (b : Bool) : Rep K F (.bl b) (.bl b)
  | int (i : Int) : Rep K F (.int i) (.int i)
  | str (x : Str) : Rep K F (.str x) (.str x)
  | tup {ds : List D} {a : Addr} {vs : List V} : TupAt K F a vs → Reps K F ds vs → Rep K F (.tup ds) (.ref a)
  | lst {ds : List D} {a : Addr} {vs : List V} : Rd F a (.lst vs) → Reps K F ds vs → Rep K F (.lst ds) (.ref a)
  | dic {ks : List Key} {ds : List D} {a : Addr} {kvs : List (Key × V)} : F a = some (.dK kvs) → kvs.map (·.1) = ks → Reps K F ds (kvs.map (·.2)) → Rep K F (.dic ks ds) (.ref a)
  | obj {C : Str} {ns : List Str} {ds : List D} {a dx : Addr} {fs : List (Str × V)} : F a = some (.ins (He.ga K C) dx fs) → fs.map (·.1) = ns → Reps K F ds (fs.map (·.2)) → Rep K F (.obj C ns ds) (.ref a)
  | ref (a : Addr) : Rep K F (.ref a) (.ref a)
  | wtup {ds : List D} {a : Addr} {vs : List V} : SqT K F a vs → Reps K F ds vs → Rep K F (.wtup ds) (.ref a)
inductive Reps (K : PySem.W.Frag) (F : Hp) : List D → List V → Prop
  | nil : Reps K F [] []
  | cons {d : D} {v : V} {ds : List D} {vs : List V} : Rep K F d v → Reps K F ds vs → Reps K F (d :: ds) (v :: vs)
end
/-- F' knows all that F knows -/
def ExF (F F' : Hp) : Prop := ∀ a o, F a = some o → F' a = some o
theorem ExF.refl (F : Hp) : ExF F F := fun _ _ h => h
theorem ExF.trans {F F1 F2 : Hp} (a : ExF F F1) (b : ExF F1 F2) : ExF F F2 := fun x o h => b x o (a x o h)
theorem ExF.new {F : Hp} {p : Addr} {o : HO} (h : F p = none) : ExF F (upd F p o) := fun a u e => by
  rw [upd_ne (ne_of_none e h)]
  exact e
theorem exf_rd {F F' : Hp} {a : Addr} {u : HO} (e : ExF F F') (h : Rd F a u) : Rd F' a u := by
  rcases h with h | ⟨o, h⟩
  · exact .inl (e a _ h)
  · exact .inr ⟨o, e a _ h⟩
theorem exf_l {K : PySem.W.Frag} {F F' : Hp} {a : Addr} {xs : List V} (e : ExF F F') (h : SqL K F a xs) : SqL K F' a xs := by
  rcases h with h | h
  · exact .inl (exf_rd e h)
  · exact .inr h
theorem exf_t {K : PySem.W.Frag} {F F' : Hp} {a : Addr} {xs : List V} (e : ExF F F') (h : SqT K F a xs) : SqT K F' a xs := by
  rcases h with h | h
  · exact .inl (exf_rd e h)
  · exact .inr h
theorem exf_ta {K : PySem.W.Frag} {F F' : Hp} {a : Addr} {xs : List V} (e : ExF F F') (h : TupAt K F a xs) : TupAt K F' a xs := by
  rcases h with ⟨o, h, d⟩ | h
  · exact .inl ⟨o, e a _ h, d⟩
  · exact .inr h
section
variable {K : PySem.W.Frag} {F F' : Hp}
mutual
theorem Rep.mono (e : ExF F F') : ∀ (d : D) (v : V), Rep K F d v → Rep K F' d v
  | .non, _, h => by cases h; exact .non
  | .bl b, _, h => by cases h; exact .bl b
  | .int i, _, h => by cases h; exact .int i
  | .str x, _, h => by cases h; exact .str x
  | .tup ds, _, h => by
    cases h with
    | tup hs ha => exact .tup (exf_ta e hs) (Reps.mono e ds _ ha)
  | .wtup ds, _, h => by
    cases h with
    | wtup hs ha => exact .wtup (exf_t e hs) (Reps.mono e ds _ ha)
  | .lst ds, _, h => by
    cases h with
    | lst hs ha => exact .lst (exf_rd e hs) (Reps.mono e ds _ ha)
  | .dic ks ds, _, h => by
    cases h with
    | dic h1 h2 h3 => exact .dic (e _ _ h1) h2 (Reps.mono e ds _ h3)
  | .obj C ns ds, _, h => by
    cases h with
    | obj h1 h2 h3 => exact .obj (e _ _ h1) h2 (Reps.mono e ds _ h3)
  | .ref a, _, h => by cases h; exact .ref a
theorem Reps.mono (e : ExF F F') : ∀ (ds : List D) (vs : List V), Reps K F ds vs → Reps K F' ds vs
  | [], _, h => by cases h; exact .nil
  | d :: ds, _, h => by
    cases h with
    | cons h1 h2 => exact .cons (Rep.mono e d _ h1) (Reps.mono e ds _ h2)
end
theorem Rep.up {d : D} {v : V} (h : Rep K F d v) (e : ExF F F') : Rep K F' d v := Rep.mono e d v h
theorem Reps.up {ds : List D} {vs : List V} (h : Reps K F ds vs) (e : ExF F F') : Reps K F' ds vs := Reps.mono e ds vs h
theorem Reps.length : ∀ {ds : List D} {vs : List V}, Reps K F ds vs → ds.length = vs.length
  | [], [], _ => rfl
  | _ :: _, _ :: _, h => by
    cases h with
    | cons _ h2 => simp [Reps.length h2]
  | [], _ :: _, h => by cases h
  | _ :: _, [], h => by cases h
theorem Reps.append : ∀ {ds es : List D} {vs us : List V}, Reps K F ds vs → Reps K F es us → Reps K F (ds ++ es) (vs ++ us)
  | [], _, _, _, h, g => by
    cases h
    exact g
  | d :: ds, _, _, _, h, g => by
    cases h with
    | cons h1 h2 => exact .cons h1 (Reps.append h2 g)
theorem Reps.get : ∀ {ds : List D} {vs : List V} {i : Nat} {d : D}, Reps K F ds vs → ds[i]? = some d → ∃ v, vs[i]? = some v ∧ Rep K F d v
  | [], _, _, _, _, e => by simp at e
  | d :: ds, _, 0, x, h, e => by
    cases h with
    | cons h1 h2 =>
      have : d = x := by simpa using e
      subst this
      exact ⟨_, rfl, h1⟩
  | d :: ds, _, i + 1, x, h, e => by
    cases h with
    | cons h1 h2 =>
      obtain ⟨v, a, b⟩ := Reps.get (i := i) (d := x) h2 (by simpa using e)
      exact ⟨v, by simpa using a, b⟩
theorem Reps.drop : ∀ {ds : List D} {vs : List V} (n : Nat), Reps K F ds vs → Reps K F (ds.drop n) (vs.drop n)
  | _, _, 0, h => h
  | [], _, _ + 1, h => by cases h; exact .nil
  | _ :: _, _, n + 1, h => by
    cases h with
    | cons _ h2 => exact Reps.drop n h2
theorem Reps.take : ∀ {ds : List D} {vs : List V} (n : Nat), Reps K F ds vs → Reps K F (ds.take n) (vs.take n)
  | _, _, 0, _ => .nil
  | [], _, _ + 1, h => by cases h; exact .nil
  | _ :: _, _, n + 1, h => by
    cases h with
    | cons h1 h2 => exact .cons h1 (Reps.take n h2)
theorem Reps.set {d : D} {v : V} (r : Rep K F d v) : ∀ {ds : List D} {vs : List V} (i : Nat), Reps K F ds vs → Reps K F (ds.set i d) (vs.set i v)
  | [], _, _, h => by cases h; exact .nil
  | _ :: _, _, 0, h => by
    cases h with
    | cons _ h2 => exact .cons r h2
  | _ :: _, _, i + 1, h => by
    cases h with
    | cons h1 h2 => exact .cons h1 (Reps.set r i h2)
theorem Reps.eraseIdx : ∀ {ds : List D} {vs : List V} (i : Nat), Reps K F ds vs → Reps K F (ds.eraseIdx i) (vs.eraseIdx i)
  | [], _, _, h => by cases h; exact .nil
  | _ :: _, _, 0, h => by
    cases h with
    | cons _ h2 => exact h2
  | _ :: _, _, i + 1, h => by
    cases h with
    | cons h1 h2 => exact .cons h1 (Reps.eraseIdx i h2)
theorem Reps.reverse : ∀ {ds : List D} {vs : List V}, Reps K F ds vs → Reps K F ds.reverse vs.reverse
  | [], _, h => by cases h; exact .nil
  | d :: ds, _, h => by
    cases h with
    | cons h1 h2 =>
      rw [List.reverse_cons, List.reverse_cons]
      exact (Reps.reverse h2).append (.cons h1 .nil)
theorem Reps.dropLast : ∀ {ds : List D} {vs : List V}, Reps K F ds vs → Reps K F ds.dropLast vs.dropLast
  | [], _, h => by cases h; exact .nil
  | [_], _, h => by
    cases h with
    | cons _ h2 => cases h2; exact .nil
  | d :: e :: ds, _, h => by
    cases h with
    | cons h1 h2 =>
      cases h2 with
      | cons h3 h4 => exact .cons h1 (Reps.dropLast (.cons h3 h4))
theorem Reps.rep {ds : List D} {vs : List V} (h : Reps K F ds vs) : ∀ k : Nat, Reps K F (List.replicate k ds).flatten (List.replicate k vs).flatten
  | 0 => .nil
  | k + 1 => by
    rw [List.replicate_succ, List.replicate_succ, List.flatten_cons, List.flatten_cons]
    exact h.append (Reps.rep h k)
theorem Reps.ints : ∀ {ns : List Int} {vs : List V}, Reps K F (ns.map D.int) vs → vs = ns.map V.int
  | [], _, h => by cases h; rfl
  | n :: ns, _, h => by
    cases h with
    | cons h1 h2 =>
      cases h1
      rw [Reps.ints h2]
      rfl
theorem Reps.of_ints : ∀ (ns : List Int), Reps K F (ns.map D.int) (ns.map V.int)
  | [] => .nil
  | n :: ns => .cons (.int n) (Reps.of_ints ns)
theorem Reps.bls : ∀ {ns : List Bool} {vs : List V}, Reps K F (ns.map D.bl) vs → vs = ns.map V.bl
  | [], _, h => by cases h; rfl
  | n :: ns, _, h => by
    cases h with
    | cons h1 h2 =>
      cases h1
      rw [Reps.bls h2]
      rfl
theorem Reps.none_of {ds : List D} {vs : List V} (h : Reps K F ds vs) {i : Nat} (e : ds[i]? = none) : vs[i]? = none := by
  have := h.length
  have := List.getElem?_eq_none_iff.mp e
  exact List.getElem?_eq_none_iff.mpr (by omega)
theorem Reps.nil_iff {ds : List D} {vs : List V} (h : Reps K F ds vs) : vs = [] ↔ ds = [] := by
  have := h.length
  constructor
  · intro e
    subst e
    exact List.length_eq_zero_iff.mp (by simpa using this)
  · intro e
    subst e
    exact List.length_eq_zero_iff.mp (by simpa using this.symm)
end
/-- what may change; opq φ: a thing that is known by what stays true of it, with its own objects -/
inductive MO where
  | lst (ds : List D)
  | dic (ks : List Key) (ds : List D)
  | ins (C : Str) (ns : List Str) (ds : List D)
  | opq (φ : Hp → Addr → List Addr → Prop)
abbrev MS := Addr → Option MO
def MS.set (S : MS) (a : Addr) (m : MO) : MS := fun b => if b = a then some m else S b
def MS.del (S : MS) (a : Addr) : MS := fun b => if b = a then none else S b
theorem MS.set_same {S : MS} {a : Addr} {m : MO} : (S.set a m) a = some m := if_pos rfl
theorem MS.set_ne {S : MS} {a b : Addr} {m : MO} (h : b ≠ a) : (S.set a m) b = S b := if_neg h
theorem MS.set_set {S : MS} {a : Addr} {m n : MO} : (S.set a m).set a n = S.set a n := by
  funext b
  unfold MS.set
  split <;> rfl
theorem MS.set_comm {S : MS} {a b : Addr} {m n : MO} (h : a ≠ b) : (S.set a m).set b n = (S.set b n).set a m := by
  funext c
  unfold MS.set
  by_cases h1 : c = a
  · subst h1
    rw [if_neg h, if_pos rfl, if_pos rfl]
  · by_cases h2 : c = b
    · subst h2
      rw [if_pos rfl, if_neg h1, if_pos rfl]
    · rw [if_neg h2, if_neg h1, if_neg h1, if_neg h2]
theorem MS.del_set {S : MS} {a : Addr} {m : MO} (h : S a = none) : (S.set a m).del a = S := by
  funext b
  by_cases e : b = a
  · subst e
    show (if b = b then none else S.set b m b) = S b
    rw [if_pos rfl, h]
  · simp only [MS.set, MS.del, if_neg e]
theorem MS.del_set_ne {S : MS} {a b : Addr} {m : MO} (h : a ≠ b) : (S.set a m).del b = (S.del b).set a m := by
  funext c
  by_cases h1 : c = a
  · simp only [MS.set, MS.del, if_pos h1]
    rw [h1, if_neg h]
  · by_cases h2 : c = b
    · simp only [MS.set, MS.del, if_pos h2, if_neg h1]
    · simp only [MS.set, MS.del, if_neg h2, if_neg h1]
theorem MS.ne_of {S : MS} {a b : Addr} {m : MO} (h : S a = some m) (h' : S b = none) : a ≠ b := by
  intro e
  subst e
  rw [h] at h'
  cases h'
/-- S has all of S0 -/
def Sub (S0 S : MS) : Prop := ∀ a m, S0 a = some m → S a = some m
theorem Sub.refl (S : MS) : Sub S S := fun _ _ h => h
theorem Sub.trans {S S1 S2 : MS} (a : Sub S S1) (b : Sub S1 S2) : Sub S S2 := fun x m h => b x m (a x m h)
theorem Sub.set {S : MS} {a : Addr} {m : MO} (h : S a = none) : Sub S (S.set a m) := fun b n e => by
  rw [MS.set_ne (MS.ne_of e h)]
  exact e
theorem Sub.set2 {S0 S : MS} {a : Addr} {m : MO} (s : Sub S0 S) (h : S0 a = none) : Sub S0 (S.set a m) := fun b n e => by
  rw [MS.set_ne (MS.ne_of e h)]
  exact s b n e
theorem Sub.del {S : MS} {a : Addr} : Sub (S.del a) S := fun b n e => by
  unfold MS.del at e
  by_cases h : b = a
  · rw [if_pos h] at e
    cases e
  · rw [if_neg h] at e
    exact e
theorem Sub.del2 {S0 S : MS} {a : Addr} (s : Sub S0 S) (h : S0 a = none) : Sub S0 (S.del a) := fun b n e => by
  unfold MS.del
  rw [if_neg (MS.ne_of e h)]
  exact s b n e
theorem Sub.none {S0 S : MS} {a : Addr} (s : Sub S0 S) (h : S a = none) : S0 a = none := by
  cases q : S0 a with
  | none => rfl
  | some m =>
    rw [s a m q] at h
    cases h
def MOk (K : PySem.W.Frag) (F : Hp) (S : MS) (H : Hp) (a : Addr) : MO → Prop
  | .lst ds => ∃ vs, H a = some (.lst vs) ∧ Reps K F ds vs
  | .dic ks ds => ∃ kvs : List (Key × V), H a = some (.dK kvs) ∧ kvs.map (·.1) = ks ∧ Reps K F ds (kvs.map (·.2))
  | .ins C ns ds => ∃ (dx : Addr) (fs : List (Str × V)), H a = some (.ins (He.ga K C) dx fs) ∧ fs.map (·.1) = ns ∧ Reps K F ds (fs.map (·.2))
  | .opq φ => ∃ own : List Addr, (∀ c ∈ own, F c = none ∧ S c = none ∧ c ≠ a ∧ (H c).isSome = true) ∧ (H a).isSome = true ∧ ∀ H' : Hp, (∀ b, b = a ∨ b ∈ own → H' b = H b) → φ H' a own
def isOpq : MO → Bool
  | .opq _ => true
  | _ => false
structure FS (K : PySem.W.Frag) (F : Hp) (S : MS) (H : Hp) : Prop where
  fr : ∀ a o, F a = some o → H a = some o
  st : ∀ a m, S a = some m → F a = none ∧ MOk K F S H a m
  one : ∀ a b m n, S a = some m → S b = some n → isOpq m = true → isOpq n = true → a = b
section
variable {K : PySem.W.Frag} {F F' : Hp} {S S' : MS} {H H' : Hp}
theorem FS.notS (x : FS K F S H) {a : Addr} (h : H a = none) : S a = none ∧ F a = none := by
  refine ⟨?_, ?_⟩
  · cases q : S a with
    | none => rfl
    | some m =>
      obtain ⟨_, ok⟩ := x.st a m q
      cases m with
      | lst ds => obtain ⟨vs, e, _⟩ := ok; rw [e] at h; cases h
      | dic ks ds => obtain ⟨vs, e, _⟩ := ok; rw [e] at h; cases h
      | ins C ns ds => obtain ⟨dx, vs, e, _⟩ := ok; rw [e] at h; cases h
      | opq φ => obtain ⟨own, _, e, _⟩ := ok; rw [h] at e; cases e
  · cases q : F a with
    | none => rfl
    | some o =>
      rw [x.fr a o q] at h
      cases h
/-- a thing known by what is true of it, in another state -/
theorem opq_move {a : Addr} {φ : Hp → Addr → List Addr → Prop} (ok : MOk K F S H a (.opq φ)) (ha : H' a = H a)
    (hc : ∀ c, F c = none → S c = none → c ≠ a → (H c).isSome = true → F' c = none ∧ S' c = none ∧ H' c = H c) : MOk K F' S' H' a (.opq φ) := by
  obtain ⟨own, ho, hs, hf⟩ := ok
  refine ⟨own, fun c h => ?_, by rw [ha]; exact hs, fun H'' hH => hf H'' fun b hb => ?_⟩
  · obtain ⟨h1, h2, h3, h4⟩ := ho c h
    obtain ⟨k1, k2, k3⟩ := hc c h1 h2 h3 h4
    exact ⟨k1, k2, h3, by rw [k3]; exact h4⟩
  · rw [hH b hb]
    rcases hb with rfl | hb
    · exact ha
    · obtain ⟨h1, h2, h3, h4⟩ := ho b hb
      exact (hc b h1 h2 h3 h4).2.2
/-- any thing that may change, in another state -/
theorem mok_move {a : Addr} {m : MO} (ok : MOk K F S H a m) (ex : ExF F F') (ha : H' a = H a)
    (hc : ∀ c, F c = none → S c = none → c ≠ a → (H c).isSome = true → F' c = none ∧ S' c = none ∧ H' c = H c) : MOk K F' S' H' a m := by
  cases m with
  | lst ds => obtain ⟨vs, e1, r⟩ := ok; exact ⟨vs, by rw [ha]; exact e1, r.up ex⟩
  | dic ks ds => obtain ⟨vs, e1, e2, r⟩ := ok; exact ⟨vs, by rw [ha]; exact e1, e2, r.up ex⟩
  | ins C ns ds => obtain ⟨dx, vs, e1, e2, r⟩ := ok; exact ⟨dx, vs, by rw [ha]; exact e1, e2, r.up ex⟩
  | opq φ => exact opq_move ok ha hc
theorem isSome_ne {a p : Addr} (h : (H a).isSome = true) (hp : H p = none) : a ≠ p := fun z => by
  rw [z, hp] at h
  cases h
/-- the frozen part grows by a new object -/
theorem FS.grow (x : FS K F S H) {p : Addr} {o : HO} (hp : H p = none) : FS K (upd F p o) S (upd H p o) := by
  obtain ⟨sp, fp⟩ := x.notS hp
  refine ⟨fun a u e => ?_, fun a m e => ?_, x.one⟩
  · by_cases h : a = p
    · subst h
      rw [upd_same] at e ⊢
      exact e
    · rw [upd_ne h] at e ⊢
      exact x.fr a u e
  · have hap : a ≠ p := MS.ne_of e sp
    obtain ⟨f, ok⟩ := x.st a m e
    exact ⟨by rw [upd_ne hap]; exact f, mok_move ok (ExF.new fp) (upd_ne hap) fun c h1 h2 h3 h4 => ⟨by rw [upd_ne (isSome_ne h4 hp)]; exact h1, h2, upd_ne (isSome_ne h4 hp)⟩⟩
/-- a new object that is forgotten -/
theorem FS.drop (x : FS K F S H) {p : Addr} {o : HO} (hp : H p = none) : FS K F S (upd H p o) := by
  obtain ⟨sp, fp⟩ := x.notS hp
  refine ⟨fun a u e => ?_, fun a m e => ?_, x.one⟩
  · rw [upd_ne (ne_of_none e fp)]
    exact x.fr a u e
  · have hap : a ≠ p := MS.ne_of e sp
    obtain ⟨f, ok⟩ := x.st a m e
    exact ⟨f, mok_move ok (ExF.refl F) (upd_ne hap) fun c h1 h2 h3 h4 => ⟨h1, h2, upd_ne (isSome_ne h4 hp)⟩⟩
/-- a new object that may change -/
theorem FS.alloc (x : FS K F S H) {p : Addr} {o : HO} {m : MO} (hp : H p = none) (nm : isOpq m = false) (ok : MOk K F (S.set p m) (upd H p o) p m) : FS K F (S.set p m) (upd H p o) := by
  obtain ⟨sp, fp⟩ := x.notS hp
  refine ⟨(x.drop hp).fr, fun a n e => ?_, fun a b u v h1 h2 h3 h4 => ?_⟩
  · by_cases h : a = p
    · subst h
      rw [MS.set_same] at e
      cases e
      exact ⟨fp, ok⟩
    · rw [MS.set_ne h] at e
      obtain ⟨f, k⟩ := x.st a n e
      exact ⟨f, mok_move k (ExF.refl F) (upd_ne h) fun c h1 h2 h3 h4 => ⟨h1, by rw [MS.set_ne (isSome_ne h4 hp)]; exact h2, upd_ne (isSome_ne h4 hp)⟩⟩
  · by_cases ha : a = p
    · subst ha
      rw [MS.set_same] at h1
      cases h1
      rw [nm] at h3
      cases h3
    · by_cases hb : b = p
      · subst hb
        rw [MS.set_same] at h2
        cases h2
        rw [nm] at h4
        cases h4
      · rw [MS.set_ne ha] at h1
        rw [MS.set_ne hb] at h2
        exact x.one a b u v h1 h2 h3 h4
/-- one that stands is changed -/
theorem FS.write (x : FS K F S H) {p : Addr} {o : HO} {m n : MO} (hp : S p = some m) (nm : isOpq n = false) (ok : MOk K F (S.set p n) (upd H p o) p n) : FS K F (S.set p n) (upd H p o) := by
  obtain ⟨fp, okp⟩ := x.st p m hp
  refine ⟨fun a u e => ?_, fun a k e => ?_, fun a b u v h1 h2 h3 h4 => ?_⟩
  · rw [upd_ne (ne_of_none e fp)]
    exact x.fr a u e
  · by_cases h : a = p
    · subst h
      rw [MS.set_same] at e
      cases e
      exact ⟨fp, ok⟩
    · rw [MS.set_ne h] at e
      obtain ⟨f, k'⟩ := x.st a k e
      have ne : ∀ c, S c = none → c ≠ p := fun c z q => by
        rw [q, hp] at z
        cases z
      exact ⟨f, mok_move k' (ExF.refl F) (upd_ne h) fun c h1 h2 h3 h4 => ⟨h1, by rw [MS.set_ne (ne c h2)]; exact h2, upd_ne (ne c h2)⟩⟩
  · by_cases ha : a = p
    · subst ha
      rw [MS.set_same] at h1
      cases h1
      rw [nm] at h3
      cases h3
    · by_cases hb : b = p
      · subst hb
        rw [MS.set_same] at h2
        cases h2
        rw [nm] at h4
        cases h4
      · rw [MS.set_ne ha] at h1
        rw [MS.set_ne hb] at h2
        exact x.one a b u v h1 h2 h3 h4
/-- a list that changes no more -/
theorem FS.freeze (x : FS K F S H) {p : Addr} {ds : List D} (hp : S p = some (.lst ds)) : ∃ vs, H p = some (.lst vs) ∧ Reps K F ds vs ∧ FS K (upd F p (.lst vs)) (S.del p) H := by
  obtain ⟨fp, vs, e, r⟩ := x.st p _ hp
  refine ⟨vs, e, r, fun a u h => ?_, fun a m h => ?_, fun a b u v h1 h2 => x.one a b u v (Sub.del a u h1) (Sub.del b v h2)⟩
  · by_cases ha : a = p
    · subst ha
      rw [upd_same] at h
      rw [e]
      exact h
    · rw [upd_ne ha] at h
      exact x.fr a u h
  · have h0 := Sub.del a m h
    have ha : a ≠ p := fun z => by
      subst z
      simp only [MS.del, if_pos] at h
      cases h
    obtain ⟨f, k⟩ := x.st a m h0
    have ne : ∀ c, S c = none → c ≠ p := fun c z q => by
      rw [q, hp] at z
      cases z
    refine ⟨by rw [upd_ne ha]; exact f, mok_move k (ExF.new fp) rfl fun c h1 h2 h3 h4 => ⟨by rw [upd_ne (ne c h2)]; exact h1, ?_, rfl⟩⟩
    simp only [MS.del, if_neg (ne c h2)]
    exact h2
theorem FS.sub (x : FS K F S H) {S0 : MS} (s : Sub S0 S) : FS K F S0 H :=
  ⟨x.fr, fun a m e => let ⟨f, k⟩ := x.st a m (s a m e); ⟨f, mok_move k (ExF.refl F) rfl fun c h1 h2 h3 h4 => ⟨h1, s.none h2, rfl⟩⟩, fun a b u v h1 h2 => x.one a b u v (s a u h1) (s b v h2)⟩
end
end DL
/-! DLT: what makes tuples, and that a tuple so made has no dict of its own. -/
namespace DL
open PySem PySem.Spec PyProof.Rows L2
/-- a new tuple's object -/
abbrev tupO (its : List Value) : Obj := { cls := .type "tuple", data := .seq its.toArray }
/-- the wish of a new tuple -/
def NewT (H : Hp) (xs : List V) (Q : VK) : Prop := ∀ p o, H p = none → o.dict = none → Q (.ref p) (upd H p (.frz o (.tup xs)))
section
variable {X : Cx} {pins : List (Addr × Obj)} {σ : L2.St} {H : Hp} {s : Shared} {Q : VK}
theorem newT_at {xs : List V} {its : List Value} (I : Inv X pins σ H s) (r : Vals xs its) (z : xs.length ≤ sizeLine) (q : NewT H xs Q) {t' : Nat} :
    EP X pins σ Q (.ref s.heap.objs.size) { s with heap := s.heap.push (tupO its), toks := t' } := by
  have hg := Heap.get?_push_size s.heap (o := tupO its) rfl
  refine ⟨.ref s.heap.objs.size, _, I.laid (t' := t') (o := .frz (tupO its) (.tup xs)) (fun b u e => Heap.get?_push_of_some _ e) (Nat.le_refl _) ?_, rfl, q _ (tupO its) (I.hok.fresh (Nat.le_refl _)) rfl⟩
  exact ⟨hg, z, its, r, IsTup.new _ _⟩
end
section
variable {X : Cx} {es : List Expr} {t : TA} {pos : Pos}
def tTupF (t : TA) : TE := fun σ H Q => t σ H fun xs H1 => xs.length ≤ sizeLine ∧ NewT H1 xs Q
theorem pe_tupF {x1} (h : PA X es t) : PE X (.Tuple es x1 pos) (tTupF t) := by
  refine ⟨fun pins s σ H Q I hq => ?_⟩
  exact wpAny_Tuple_spliced (thn (h.run pos pins s σ H _ I hq) fun us s1 ⟨xs, H1, I1, r, z, q⟩ => ⟨by rw [← r.length]; exact z, newT_at (t' := s1.toks) I1 r z q⟩)
/-- t + u -/
def rCatF (K : PySem.W.Frag) : R2 := fun x y H Q => ∃ a b xs ys, x = .ref a ∧ y = .ref b ∧ SqT K H a xs ∧ SqT K H b ys ∧ xs.length + ys.length ≤ sizeLine ∧
  (xs = [] → Q (.ref b) H) ∧ (xs ≠ [] → ys = [] → Q (.ref a) H) ∧ (xs ≠ [] → ys ≠ [] → NewT H (xs ++ ys) Q)
theorem op_catF : OpR X (binaryOp .Add) (rCatF X.K) := by
  intro pins s σ H x y v u Q I rx ry h
  obtain ⟨a, b, xs, ys, rfl, rfl, ha, hb, hz, q0, q1, q2⟩ := h
  cases rx
  cases ry
  obtain ⟨its, r1, p1, _⟩ := I.tuple ha
  obtain ⟨its2, r2, p2, _⟩ := I.tuple hb
  by_cases hx : xs = []
  · subst hx
    cases r1
    exact L2.cat_tup0 p1 p2 ⟨.ref b, H, I, rfl, q0 rfl⟩
  · refine HT.cat_tup p1 p2 (fun z => hx (r1.nil_iff.mp z)) (fun z => ⟨.ref a, H, I, rfl, q1 hx (r2.nil_iff.mp z)⟩) (fun z => ?_) (by rw [← r1.length, ← r2.length]; exact hz)
    exact newT_at (t' := s.toks) I (r1.append r2) (by rw [List.length_append]; exact hz) (q2 hx fun w => z (r2.nil_iff.mpr w))
/-- t[lo:hi] -/
def rSlF (K : PySem.W.Frag) : V → Option Int → Option Int → Hp → VK → Prop := fun x lo hi H Q => ∃ a xs, x = .ref a ∧ SqT K H a xs ∧
  (HT.sIx xs.length 0 lo = 0 ∧ HT.sIx xs.length xs.length hi = xs.length → Q (.ref a) H) ∧ (¬ (HT.sIx xs.length 0 lo = 0 ∧ HT.sIx xs.length xs.length hi = xs.length) → NewT H (cutV xs lo hi) Q)
theorem sl_tupF : SlR X (rSlF X.K) := by
  intro pins s σ H x v vl vu lo hi sl Q I rx hs pl pu h
  obtain ⟨a, xs, rfl, hx, q1, q2⟩ := h
  cases rx
  obtain ⟨its, r, ht, hz⟩ := I.tuple hx
  have hlen : its.toArray.size = xs.length := by rw [List.size_toArray]; exact r.length.symm
  refine ⟨"tuple", _, PyProof.Rows.slot_tuple_getitem.lookup, ht.typeIs, ?_⟩
  by_cases hw : HT.sIx xs.length 0 lo = 0 ∧ HT.sIx xs.length xs.length hi = xs.length
  · exact L2.getItem_tuple_whole ht hs pl pu (by rw [hlen]; exact hw) ⟨.ref a, H, I, rfl, q1 hw⟩
  · refine HT.getItem_tuple_cut ht hs pl pu (by rw [hlen]; exact hw) ?_ (by rw [hlen]; exact hz)
    rw [hlen]
    exact newT_at (t' := s.toks) I ((r.drop (HT.sIx xs.length 0 lo)).take (HT.sIx xs.length xs.length hi - HT.sIx xs.length 0 lo)) (Nat.le_trans (cutV_length xs lo hi) hz) (q2 hw)
/-- tuple(xs) -/
def rTupF (K : PySem.W.Frag) : List V → Hp → VK → Prop := fun xs H Q => ∃ p ys, xs = [.ref p] ∧ ((SqL K H p ys ∧ NewT H ys Q) ∨ (SqT K H p ys ∧ Q (.ref p) H))
theorem call_tupF : CallR X (.type "tuple") (rTupF X.K) := by
  intro pins s σ H xs us Q I r h
  obtain ⟨p, ys, rfl, h⟩ := h
  obtain ⟨u, rfl, rx⟩ := vals1 r
  cases rx
  rcases h with ⟨hq, q⟩ | ⟨hq, q⟩
  · obtain ⟨its, r', pl, hz⟩ := I.list hq
    have hlen := r'.length
    refine call_tuple_list pl.isList (fun h' kp => ?_) (by simp only [List.size_toArray] <;> omega)
    have I1 : Inv X pins σ H { s with heap := h' } := I.kept (t' := s.toks) kp
    exact newT_at (t' := s.toks) I1 r' hz q
  · obtain ⟨its, r', pl, hz⟩ := I.tuple hq
    exact call_tuple_same pl ⟨.ref p, H, I, rfl, q⟩
/-- t * k -/
def rRepF (K : PySem.W.Frag) : R2 := fun x y H Q => ∃ l k xs, x = .ref l ∧ y = .int k ∧ SqT K H l xs ∧ xs ≠ [] ∧ 2 ≤ k ∧ k ≤ 1000 ∧ xs.length ≤ 1000 ∧ NewT H (List.replicate k.toNat xs).flatten Q
theorem op_repF : OpR X (binaryOp .Mult) (rRepF X.K) := by
  intro pins s σ H x y v u Q I rx ry h
  obtain ⟨l, k, xs, rfl, rfl, hT, hne, h1, h2, hz, q⟩ := h
  cases rx
  obtain ⟨t, rfl⟩ := ry
  obtain ⟨its, r, ⟨⟨cls, dd, data, sl⟩, ho, hc, n, hd⟩, hs⟩ := I.tuple hT
  simp only at hc hd
  subst hc hd
  have hle : its.length = xs.length := r.length.symm
  have hi : its.toArray.isEmpty = false := by
    cases its with
    | nil => exact absurd (List.eq_nil_of_length_eq_zero hle.symm) hne
    | cons a b => rfl
  have flen : (List.replicate k.toNat its).flatten.length ≤ sizeLine := by
    rw [lm_len_rep_flat, hle, sizeLine_eq]
    have := Nat.mul_le_mul (show k.toNat ≤ 1000 by omega) hz
    omega
  have c0 : (decide (k < -(2 ^ 63)) || decide (k ≥ 2 ^ 63)) = false := by simp; omega
  have c1 : (its.toArray.isEmpty || k == 1) = false := by simp [hi]; omega
  have c2 : (decide (k ≤ 0) || its.toArray.isEmpty) = false := by simp [hi]; omega
  have hm : ((its.toArray.size : Nat) : Int) * k ≤ 1000000 := by
    rw [List.size_toArray, hle]
    have := Int.mul_le_mul_of_nonneg_right (show ((xs.length : Nat) : Int) ≤ 1000 by omega) (show 0 ≤ k by omega)
    omega
  have c4 : Builtin.Tuple.tupleTooMany (((its.toArray.size : Nat) : Int) * k) = false := by
    simp only [Builtin.Tuple.tupleTooMany, sizeLine_eq]
    exact decide_eq_false (by omega)
  refine wpAny_binaryOp_repeat_ref (T := "tuple") (U := "int") (by decide) ⟨_, ho, rfl⟩ (fun s' => typeIs_int s' k t) noFill_tuple_mul F.fills_int_mul F.slot_int_rmul repeat_tuple F.slot_int_index.lookup
    (call_meets F.slot_int_rmul (typeIs_int s k t) F.entry_int_rmul (F.args_int_rmul_2 _ _) (int_rmul_tuple k t l its.toArray n dd sl)
      ⟨ho, rfl, ⟨_, ho, rfl⟩, call_meets F.slot_tuple_mul ⟨_, ho, rfl⟩ F.entry_tuple_mul (F.args_tuple_mul_2 _ _) (tuple_mulW l its.toArray n dd sl k t c0 c1 c2 (by omega) c4 (by rw [size_rep, List.size_toArray]; exact flen)) ⟨ho, ?_⟩⟩)
  rw [size_rep]
  exact newT_at (t' := s.toks) I (r.rep k.toNat) (by rw [← (r.rep k.toNat).length] at flen; exact flen) q
end
end DL
/-! DL2: the judgements over data: a state's match, expressions, tests, arguments. -/
namespace DL
open PySem PySem.Spec PyProof.Rows L2
/-! ### reading through the store -/
def rdM (a : Addr) : Option MO → D
  | some (.lst ds) => .lst ds
  | some (.dic ks ds) => .dic ks ds
  | some (.ins C ns ds) => .obj C ns ds
  | _ => .ref a
def rd (S : MS) : D → D
  | .ref a => rdM a (S a)
  | d => d
/-- a datum's top in the heap, what it holds in the part that stays -/
def RepT (K : PySem.W.Frag) (F H : Hp) : D → V → Prop
  | .lst ds, v => ∃ a vs, v = .ref a ∧ Rd H a (.lst vs) ∧ Reps K F ds vs
  | .tup ds, v => ∃ a vs, v = .ref a ∧ SqT K H a vs ∧ Reps K F ds vs ∧ Rep K F (.tup ds) v
  | .wtup ds, v => ∃ a vs, v = .ref a ∧ SqT K H a vs ∧ Reps K F ds vs
  | .dic ks ds, v => ∃ (a : Addr) (kvs : List (Key × V)), v = .ref a ∧ H a = some (.dK kvs) ∧ kvs.map (·.1) = ks ∧ Reps K F ds (kvs.map (·.2))
  | .obj C ns ds, v => ∃ (a dx : Addr) (fs : List (Str × V)), v = .ref a ∧ H a = some (.ins (He.ga K C) dx fs) ∧ fs.map (·.1) = ns ∧ Reps K F ds (fs.map (·.2))
  | d, v => Rep K F d v
section
variable {K : PySem.W.Frag} {F F' : Hp} {S S' : MS} {H H' : Hp}
theorem RepT.of (x : FS K F S H) {d : D} {v : V} (h : Rep K F d v) : RepT K F H d v := by
  cases h with
  | non => exact Rep.non
  | bl b => exact Rep.bl b
  | int i => exact Rep.int i
  | str s => exact Rep.str s
  | tup h1 h2 => exact ⟨_, _, rfl, exf_t x.fr h1.sq, h2, .tup h1 h2⟩
  | wtup h1 h2 => exact ⟨_, _, rfl, exf_t x.fr h1, h2⟩
  | lst h1 h2 => exact ⟨_, _, rfl, exf_rd x.fr h1, h2⟩
  | dic h1 h2 h3 => exact ⟨_, _, rfl, x.fr _ _ h1, h2, h3⟩
  | obj h1 h2 h3 => exact ⟨_, _, _, rfl, x.fr _ _ h1, h2, h3⟩
  | ref a => exact Rep.ref a
theorem rd_ok (x : FS K F S H) {d : D} {v : V} (h : Rep K F d v) : RepT K F H (rd S d) v := by
  cases d with
  | ref a =>
    cases h
    show RepT K F H (rdM a (S a)) (.ref a)
    cases e : S a with
    | none => exact Rep.ref a
    | some m =>
      obtain ⟨_, ok⟩ := x.st a m e
      cases m with
      | lst ds => obtain ⟨vs, e1, r⟩ := ok; exact ⟨a, vs, rfl, .inl e1, r⟩
      | dic ks ds => obtain ⟨kvs, e1, e2, r⟩ := ok; exact ⟨a, kvs, rfl, e1, e2, r⟩
      | ins C ns ds => obtain ⟨dx, fs, e1, e2, r⟩ := ok; exact ⟨a, dx, fs, rfl, e1, e2, r⟩
      | opq φ => exact Rep.ref a
  | _ => exact RepT.of x h
end
/-! ### the state's match -/
abbrev Rho := List (Option D)
abbrev KD := D → Rho → MS → Prop
abbrev WE := Rho → MS → KD → Prop
abbrev WT := Rho → MS → (Bool → Rho → MS → Prop) → Prop
abbrev WA := Rho → MS → (List D → Rho → MS → Prop) → Prop
abbrev KV2 := D → MS → Prop
/-- an exception, by its class and what its fields hold -/
abbrev DXC := Str → List D → MS → Prop
def ExRep (K : PySem.W.Frag) (F H : Hp) (e : Value) (d : Option Addr) (C : Str) (xs : List D) : Prop :=
  e = .ref (He.ga K C) ∧ ((d = none ∧ xs = []) ∨ ∃ (da : Addr) (fs : List (Str × V)), d = some da ∧ H da = some (.xd fs) ∧ Reps K F xs (fs.map (·.2)))
structure Lk where
  E : XK
  ex : DXC
structure Mt (K : PySem.W.Frag) (L : Lk) (F : Hp) (ρ : Rho) (S : MS) (σ : L2.St) (H : Hp) : Prop where
  fs : FS K F S H
  sl : ∀ (i : Nat) (d : D), ρ[i]? = some (some d) → ∃ v, σ[i]? = some (some v) ∧ Rep K F d v
  len : ρ.length ≤ σ.length
  lk : ∀ (F' : Hp) (S' : MS) (H' : Hp) (e : Value) (d : Option Addr) (C : Str) (xs : List D), ExF F F' → FS K F' S' H' → ExRep K F' H' e d C xs → L.ex C xs S' → L.E e d H'
section
variable {K : PySem.W.Frag} {L : Lk} {F F' : Hp} {ρ : Rho} {S S' : MS} {σ : L2.St} {H H' : Hp}
theorem Mt.step (m : Mt K L F ρ S σ H) (e : ExF F F') (x : FS K F' S' H') : Mt K L F' ρ S' σ H' :=
  ⟨x, fun i d h => let ⟨v, a, b⟩ := m.sl i d h; ⟨v, a, b.up e⟩, m.len, fun F2 S2 H2 ee d C xs e2 => m.lk F2 S2 H2 ee d C xs (e.trans e2)⟩
theorem Mt.store (m : Mt K L F ρ S σ H) {i : Nat} {d : D} {v : V} (r : Rep K F d v) : Mt K L F (ρ.set i (some d)) S (σ.set i (some v)) H := by
  refine ⟨m.fs, fun j d' h => ?_, by rw [List.length_set, List.length_set]; exact m.len, m.lk⟩
  by_cases hj : i = j
  · subst hj
    by_cases hl : i < ρ.length
    · rw [List.getElem?_set_self hl] at h
      cases h
      exact ⟨v, List.getElem?_set_self (Nat.lt_of_lt_of_le hl m.len), r⟩
    · rw [List.getElem?_eq_none (by simpa using hl)] at h
      cases h
  · rw [List.getElem?_set_ne hj] at h ⊢
    exact m.sl j d' h
/-- the view of a slot is changed, the slot is not -/
theorem Mt.view (m : Mt K L F ρ S σ H) {i : Nat} {d : D} {v : V} (hs : σ[i]? = some (some v)) (r : Rep K F d v) : Mt K L F (ρ.set i (some d)) S σ H := by
  refine ⟨m.fs, fun j d' h => ?_, by rw [List.length_set]; exact m.len, m.lk⟩
  by_cases hj : i = j
  · subst hj
    by_cases hl : i < ρ.length
    · rw [List.getElem?_set_self hl] at h
      cases h
      exact ⟨v, hs, r⟩
    · rw [List.getElem?_eq_none (by simpa using hl)] at h
      cases h
  · rw [List.getElem?_set_ne hj] at h
    exact m.sl j d' h
end
/-! ### what a reading over values does over data -/
/-- behind an evaluation: the value d, the view ρ', the store S' -/
def KE (K : PySem.W.Frag) (L : Lk) (F : Hp) (σ : L2.St) (Q : KD) (R : VK) : Prop :=
  ∀ v H' d ρ' S' F', ExF F F' → Mt K L F' ρ' S' σ H' → Rep K F' d v → Q d ρ' S' → R v H'
def RE (K : PySem.W.Frag) (L : Lk) (t : TE) (w : WE) : Prop :=
  ∀ F ρ S σ H Q R, Mt K L F ρ S σ H → w ρ S Q → KE K L F σ Q R → t σ H R
def RT (K : PySem.W.Frag) (L : Lk) (t : TT) (w : WT) : Prop :=
  ∀ F ρ S σ H (Q : Bool → Rho → MS → Prop) (R : Bool → Hp → Prop), Mt K L F ρ S σ H → w ρ S Q →
    (∀ b H' ρ' S' F', ExF F F' → Mt K L F' ρ' S' σ H' → Q b ρ' S' → R b H') → t σ H R
def RA (K : PySem.W.Frag) (L : Lk) (t : TA) (w : WA) : Prop :=
  ∀ F ρ S σ H (Q : List D → Rho → MS → Prop) (R : List V → Hp → Prop), Mt K L F ρ S σ H → w ρ S Q →
    (∀ vs H' ds ρ' S' F', ExF F F' → Mt K L F' ρ' S' σ H' → Reps K F' ds vs → Q ds ρ' S' → R vs H') → t σ H R
structure DE (X : Cx) (L : Lk) (e : Expr) (t : TE) (w : WE) : Prop where
  pe : PE X e t
  re : RE X.K L t w
structure DT (X : Cx) (L : Lk) (e : Expr) (t : TT) (w : WT) : Prop where
  pt : PT X e t
  rt : RT X.K L t w
structure DW (X : Cx) (L : Lk) (e : Expr) (t : TT) (w : WT) : Prop where
  pw : PW X e t
  rt : RT X.K L t w
structure DA (X : Cx) (L : Lk) (es : List Expr) (t : TA) (w : WA) : Prop where
  pa : PA X es t
  ra : RA X.K L t w
/-! ### values' operations -/
/-- behind an operation on values -/
def KO (K : PySem.W.Frag) (F : Hp) (Q : KV2) (R : VK) : Prop := ∀ v H' d S' F', ExF F F' → FS K F' S' H' → Rep K F' d v → Q d S' → R v H'
def RO2 (K : PySem.W.Frag) (r : R2) (wo : D → D → MS → KV2 → Prop) : Prop :=
  ∀ F S H x y vx vy Q R, FS K F S H → RepT K F H x vx → RepT K F H y vy → wo x y S Q → KO K F Q R → r vx vy H R
def RO1 (K : PySem.W.Frag) (r : V → Hp → VK → Prop) (wo : D → MS → KV2 → Prop) : Prop :=
  ∀ F S H x vx Q R, FS K F S H → RepT K F H x vx → wo x S Q → KO K F Q R → r vx H R
def ROc (K : PySem.W.Frag) (r : List V → Hp → VK → Prop) (wo : List D → MS → KV2 → Prop) : Prop :=
  ∀ F S H xs vs Q R, FS K F S H → Reps K F xs vs → wo xs S Q → KO K F Q R → r vs H R
section
variable {K : PySem.W.Frag} {L : Lk} {F : Hp} {ρ : Rho} {S : MS} {σ : L2.St} {H : Hp}
/-- an operation that makes nothing -/
theorem KO.here {Q : KV2} {R : VK} (k : KO K F Q R) (x : FS K F S H) {d : D} {v : V} (r : Rep K F d v) (q : Q d S) : R v H := k v H d S F (ExF.refl F) x r q
/-- a new list: m says whether it may change -/
def newL (m : Bool) (xs : List D) (S : MS) (Q : KV2) : Prop := if m = true then ∀ a, S a = none → Q (.ref a) (S.set a (.lst xs)) else Q (.lst xs) S
theorem newL_ok {m : Bool} {xs : List D} {vs : List V} {Q : KV2} {R : VK} (k : KO K F Q R) (x : FS K F S H) (r : Reps K F xs vs) (q : newL m xs S Q) {p : Addr} (hp : H p = none) : R (.ref p) (upd H p (.lst vs)) := by
  obtain ⟨sp, fp⟩ := x.notS hp
  cases m with
  | true =>
    exact k _ _ _ _ F (ExF.refl F) (x.alloc (m := .lst xs) hp rfl ⟨vs, upd_same, r⟩) (.ref p) (q p sp)
  | false =>
    exact k _ _ _ _ _ (ExF.new fp) (x.grow hp) (.lst (.inl upd_same) (r.up (ExF.new fp))) q
theorem newT_ok {xs : List D} {vs : List V} {Q : KV2} {R : VK} (k : KO K F Q R) (x : FS K F S H) (r : Reps K F xs vs) (q : Q (.tup xs) S) {p : Addr} {o : Obj} (hp : H p = none) (ho : o.dict = none) : R (.ref p) (upd H p (.frz o (.tup vs))) := by
  obtain ⟨sp, fp⟩ := x.notS hp
  exact k _ _ _ _ _ (ExF.new fp) (x.grow hp) (.tup (.inl ⟨o, upd_same, ho⟩) (r.up (ExF.new fp))) q
end
/-! ### expressions -/
section
variable {X : Cx} {L : Lk} {a b c : Expr} {ta tb tc : TE} {wa wb wc : WE} {pos : Pos}
def wVar (i : Nat) : WE := fun ρ S Q => ∃ d, ρ[i]? = some (some d) ∧ Q d ρ S
theorem re_var {K : PySem.W.Frag} {i : Nat} : RE K L (tVar i) (wVar i) := by
  rintro F ρ S σ H Q R m ⟨d, h, q⟩ k
  obtain ⟨v, hv, r⟩ := m.sl i d h
  exact ⟨v, hv, k v H d ρ S F (ExF.refl F) m r q⟩
/-- a list that changes no more, from here on -/
def wVarF (i : Nat) : WE := fun ρ S Q => ∃ a ds, ρ[i]? = some (some (.ref a)) ∧ S a = some (.lst ds) ∧ Q (.lst ds) (ρ.set i (some (.lst ds))) (S.del a)
theorem re_varF {K : PySem.W.Frag} {i : Nat} : RE K L (tVar i) (wVarF i) := by
  rintro F ρ S σ H Q R m ⟨a, ds, h, hs, q⟩ k
  obtain ⟨v, hv, r⟩ := m.sl i _ h
  cases r
  obtain ⟨vs, e, r, x⟩ := m.fs.freeze hs
  have fa := (m.fs.st a _ hs).1
  have ex : ExF F (upd F a (.lst vs)) := ExF.new fa
  have rr : Rep K (upd F a (.lst vs)) (.lst ds) (.ref a) := .lst (.inl upd_same) (r.up ex)
  exact ⟨_, hv, k _ H _ _ _ _ ex ((m.step ex x).view hv rr) rr q⟩
def wC (d : D) : WE := fun ρ S Q => Q d ρ S
theorem re_c {K : PySem.W.Frag} {d : D} {v : V} (h : ∀ F, Rep K F d v) : RE K L (tC v) (wC d) := fun F ρ S σ H Q R m q k => k v H d ρ S F (ExF.refl F) m (h F) q
theorem de_var (i : Nat) {x : Str} {pos : Pos} (hN : X.N[i]? = some x := by rfl) (hv : Vis X.env.scope x := by first | exact Or.inl rfl | exact Or.inr (Or.inl rfl) | exact Or.inr (Or.inr rfl)) (hd : (x == ("__debug__" : Str)) = false := by decide)
    (hcd : (x == ("__classdict__" : Str)) = false := by decide) : DE X L (.Name x pos) (tVar i) (wVar i) := ⟨pe_var hN hv hd hcd, re_var⟩
theorem de_varF (i : Nat) {x : Str} {pos : Pos} (hN : X.N[i]? = some x := by rfl) (hv : Vis X.env.scope x := by first | exact Or.inl rfl | exact Or.inr (Or.inl rfl) | exact Or.inr (Or.inr rfl)) (hd : (x == ("__debug__" : Str)) = false := by decide)
    (hcd : (x == ("__classdict__" : Str)) = false := by decide) : DE X L (.Name x pos) (tVar i) (wVarF i) := ⟨pe_var hN hv hd hcd, re_varF⟩
theorem de_int {i : Int} {j : Nat} {pos : Pos} : DE X L (.Constant (.int i) j pos) (tC (.int i)) (wC (.int i)) := ⟨pe_int, re_c fun _ => .int i⟩
theorem de_bl {b : Bool} {j : Nat} {pos : Pos} : DE X L (.Constant (.bool b) j pos) (tC (.bl b)) (wC (.bl b)) := ⟨pe_bl, re_c fun _ => .bl b⟩
theorem de_non {j : Nat} {pos : Pos} : DE X L (.Constant .none j pos) (tC .non) (wC .non) := ⟨pe_non, re_c fun _ => .non⟩
theorem de_str {x : Str} {j : Nat} {pos : Pos} : DE X L (.Constant (.str x) j pos) (tC (.str x)) (wC (.str x)) := ⟨pe_str, re_c fun _ => .str x⟩
/-- a module's number -/
theorem de_gint {x : Str} {i : Int} {pos : Pos} (hg : Gl X x) (hm : ∃ t, X.mg x = some (.int i t)) (hd : (x == ("__debug__" : Str)) = false := by decide) : DE X L (.Name x pos) (tC (.int i)) (wC (.int i)) :=
  let ⟨t, h⟩ := hm; ⟨pe_glob hg h ⟨t, rfl⟩ hd, re_c fun _ => .int i⟩
def wOp (wo : D → D → MS → KV2 → Prop) (wa wb : WE) : WE := fun ρ S Q => wa ρ S fun x ρ1 S1 => wb ρ1 S1 fun y ρ2 S2 => wo (rd S2 x) (rd S2 y) S2 fun d S3 => Q d ρ2 S3
theorem re_op {K : PySem.W.Frag} {r : R2} {wo : D → D → MS → KV2 → Prop} (hr : RO2 K r wo) (ha : RE K L ta wa) (hb : RE K L tb wb) : RE K L (tOp r ta tb) (wOp wo wa wb) := by
  intro F ρ S σ H Q R m q k
  refine ha F ρ S σ H _ _ m q fun x H1 dx ρ1 S1 F1 e1 m1 r1 q1 => ?_
  refine hb F1 ρ1 S1 σ H1 _ _ m1 q1 fun y H2 dy ρ2 S2 F2 e2 m2 r2 q2 => ?_
  refine hr F2 S2 H2 _ _ x y _ _ m2.fs (rd_ok m2.fs (r1.up e2)) (rd_ok m2.fs r2) q2 fun v H3 d S3 F3 e3 x3 r3 q3 => ?_
  exact k v H3 d ρ2 S3 F3 ((e1.trans e2).trans e3) (m2.step e3 x3) r3 q3
theorem de_op {op : Operator} {r : R2} {wo : D → D → MS → KV2 → Prop} (ho : OpR X (binaryOp op) r) (hr : RO2 X.K r wo) (ha : DE X L a ta wa) (hb : DE X L b tb wb) : DE X L (.BinOp a op b pos) (tOp r ta tb) (wOp wo wa wb) :=
  ⟨pe_op ho ha.pe hb.pe, re_op hr ha.re hb.re⟩
def wUn (wo : D → MS → KV2 → Prop) (wa : WE) : WE := fun ρ S Q => wa ρ S fun x ρ1 S1 => wo (rd S1 x) S1 fun d S2 => Q d ρ1 S2
theorem re_un {K : PySem.W.Frag} {r : V → Hp → VK → Prop} {wo : D → MS → KV2 → Prop} (hr : RO1 K r wo) (ha : RE K L ta wa) : RE K L (tUn r ta) (wUn wo wa) := by
  intro F ρ S σ H Q R m q k
  refine ha F ρ S σ H _ _ m q fun x H1 dx ρ1 S1 F1 e1 m1 r1 q1 => ?_
  refine hr F1 S1 H1 _ x _ _ m1.fs (rd_ok m1.fs r1) q1 fun v H3 d S3 F3 e3 x3 r3 q3 => ?_
  exact k v H3 d ρ1 S3 F3 (e1.trans e3) (m1.step e3 x3) r3 q3
theorem de_un {op : UnaryOp} {r : V → Hp → VK → Prop} {wo : D → MS → KV2 → Prop} (ho : UnR X (unaryOp op) r) (hr : RO1 X.K r wo) (ha : DE X L a ta wa) : DE X L (.UnaryOp op a pos) (tUn r ta) (wUn wo wa) :=
  ⟨pe_un ho ha.pe, re_un hr ha.re⟩
theorem de_cmp {op : CmpOp} {r : R2} {wo : D → D → MS → KV2 → Prop} (ho : OpR X (compareOp op) r) (hr : RO2 X.K r wo) (ha : DE X L a ta wa) (hb : DE X L b tb wb) (hm : behindInMarks op b = false) :
    DE X L (.Compare a [op] [b] pos) (tOp r ta tb) (wOp wo wa wb) := ⟨pe_cmpR ho ha.pe hb.pe hm, re_op hr ha.re hb.re⟩
/-- a value that is a flag, as a test -/
def wTe (wa : WE) : WT := fun ρ S Q => wa ρ S fun x ρ1 S1 => ∃ k, x = .bl k ∧ Q k ρ1 S1
theorem rt_test {K : PySem.W.Frag} (ha : RE K L ta wa) : RT K L (tTest ta) (wTe wa) := by
  intro F ρ S σ H Q R m q k
  refine ha F ρ S σ H _ _ m q fun x H1 dx ρ1 S1 F1 e1 m1 r1 ⟨b, e, q1⟩ => ?_
  subst e
  cases r1
  exact ⟨b, rfl, k b H1 ρ1 S1 F1 e1 m1 q1⟩
theorem rt_B {K : PySem.W.Frag} (ha : RE K L ta wa) : RT K L (tB ta) (wTe wa) := rt_test ha
theorem dt_cmp {op : CmpOp} {r : R2} {wo : D → D → MS → KV2 → Prop} (ho : OpR X (compareOp op) r) (hr : RO2 X.K r wo) (ha : DE X L a ta wa) (hb : DE X L b tb wb) (hm : behindInMarks op b = false) :
    DT X L (.Compare a [op] [b] pos) (tTest (tOp r ta tb)) (wTe (wOp wo wa wb)) := ⟨pt_cmpR ho ha.pe hb.pe hm, rt_test (re_op hr ha.re hb.re)⟩
theorem dt_val {e : Expr} {t : TE} {w : WE} (h : DE X L e t w) (he : ∀ whole, isTrue e X.env whole = (do let v ← whole; standAt e.pos; holding [v] (truthy v)) := by intro _; rfl) : DT X L e (tB t) (wTe w) := ⟨pt_val h.pe he, rt_B h.re⟩
/-- chains -/
def wCh (wo wo' : D → D → MS → KV2 → Prop) (wa wb wc : WE) : WE := fun ρ S Q => wa ρ S fun x ρ1 S1 => wb ρ1 S1 fun y ρ2 S2 => wo (rd S2 x) (rd S2 y) S2 fun d S3 => ∃ k, d = .bl k ∧
  (if k = true then wc ρ2 S3 fun z ρ4 S4 => wo' (rd S4 y) (rd S4 z) S4 fun d' S5 => Q d' ρ4 S5 else Q (.bl false) ρ2 S3)
theorem re_ch {K : PySem.W.Frag} {r r' : R2} {wo wo' : D → D → MS → KV2 → Prop} (hr : RO2 K r wo) (hr' : RO2 K r' wo') (ha : RE K L ta wa) (hb : RE K L tb wb) (hc : RE K L tc wc) : RE K L (tChain r r' ta tb tc) (wCh wo wo' wa wb wc) := by
  intro F ρ S σ H Q R m q k
  refine ha F ρ S σ H _ _ m q fun x H1 dx ρ1 S1 F1 e1 m1 r1 q1 => ?_
  refine hb F1 ρ1 S1 σ H1 _ _ m1 q1 fun y H2 dy ρ2 S2 F2 e2 m2 r2 q2 => ?_
  refine hr F2 S2 H2 _ _ x y _ _ m2.fs (rd_ok m2.fs (r1.up e2)) (rd_ok m2.fs r2) q2 fun v H3 d S3 F3 e3 x3 r3 ⟨kk, e, q3⟩ => ?_
  subst e
  cases r3
  have m3 := m2.step e3 x3
  refine ⟨kk, rfl, ?_⟩
  cases kk with
  | false =>
    rw [if_neg Bool.false_ne_true] at q3 ⊢
    exact k _ H3 _ ρ2 S3 F3 ((e1.trans e2).trans e3) m3 (.bl false) q3
  | true =>
    rw [if_pos rfl] at q3 ⊢
    refine hc F3 ρ2 S3 σ H3 _ _ m3 q3 fun z H4 dz ρ4 S4 F4 e4 m4 r4 q4 => ?_
    refine hr' F4 S4 H4 _ _ y z _ _ m4.fs (rd_ok m4.fs ((r2.up e3).up e4)) (rd_ok m4.fs r4) q4 fun v H5 d5 S5 F5 e5 x5 r5 q5 => ?_
    exact k v H5 d5 ρ4 S5 F5 ((((e1.trans e2).trans e3).trans e4).trans e5) (m4.step e5 x5) r5 q5
theorem de_ch {op op' : CmpOp} {r r' : R2} {wo wo' : D → D → MS → KV2 → Prop} (ho : OpR X (compareOp op) r) (ho' : OpR X (compareOp op') r') (hr : RO2 X.K r wo) (hr' : RO2 X.K r' wo') (ha : DE X L a ta wa) (hb : DE X L b tb wb) (hc : DE X L c tc wc)
    (hm : lastMarks [op, op'] [b, c] = false := by with_unfolding_all rfl) : DE X L (.Compare a [op, op'] [b, c] pos) (tChain r r' ta tb tc) (wCh wo wo' wa wb wc) := ⟨pe_chain ho ho' ha.pe hb.pe hc.pe hm, re_ch hr hr' ha.re hb.re hc.re⟩
theorem dt_ch {op op' : CmpOp} {r r' : R2} {wo wo' : D → D → MS → KV2 → Prop} (ho : OpR X (compareOp op) r) (ho' : OpR X (compareOp op') r') (hr : RO2 X.K r wo) (hr' : RO2 X.K r' wo') (ha : DE X L a ta wa) (hb : DE X L b tb wb) (hc : DE X L c tc wc)
    (hm : lastMarks [op, op'] [b, c] = false := by with_unfolding_all rfl) : DT X L (.Compare a [op, op'] [b, c] pos) (tTest (tChain r r' ta tb tc)) (wTe (wCh wo wo' wa wb wc)) := ⟨pt_chain ho ho' ha.pe hb.pe hc.pe hm, rt_test (re_ch hr hr' ha.re hb.re hc.re)⟩
/-! ### and, or, not, a if c else b -/
variable {rest : List Expr} {tA tB' : TT} {wA wB : WT}
def wAnd (w u : WT) : WT := fun ρ S Q => w ρ S fun c ρ1 S1 => if c = true then u ρ1 S1 Q else Q false ρ1 S1
def wOr (w u : WT) : WT := fun ρ S Q => w ρ S fun c ρ1 S1 => if c = true then Q true ρ1 S1 else u ρ1 S1 Q
def wNot (w : WT) : WT := fun ρ S Q => w ρ S fun c ρ1 S1 => Q (!c) ρ1 S1
theorem rt_and {K : PySem.W.Frag} (ha : RT K L tA wA) (hb : RT K L tB' wB) : RT K L (tAnd tA tB') (wAnd wA wB) := by
  intro F ρ S σ H Q R m q k
  refine ha F ρ S σ H _ _ m q fun c H1 ρ1 S1 F1 e1 m1 q1 => ?_
  cases c with
  | true =>
    rw [if_pos rfl] at q1 ⊢
    exact hb F1 ρ1 S1 σ H1 _ _ m1 q1 fun c H2 ρ2 S2 F2 e2 m2 q2 => k c H2 ρ2 S2 F2 (e1.trans e2) m2 q2
  | false =>
    rw [if_neg Bool.false_ne_true] at q1 ⊢
    exact k false H1 ρ1 S1 F1 e1 m1 q1
theorem rt_or {K : PySem.W.Frag} (ha : RT K L tA wA) (hb : RT K L tB' wB) : RT K L (tOr tA tB') (wOr wA wB) := by
  intro F ρ S σ H Q R m q k
  refine ha F ρ S σ H _ _ m q fun c H1 ρ1 S1 F1 e1 m1 q1 => ?_
  cases c with
  | false =>
    rw [if_neg Bool.false_ne_true] at q1 ⊢
    exact hb F1 ρ1 S1 σ H1 _ _ m1 q1 fun c H2 ρ2 S2 F2 e2 m2 q2 => k c H2 ρ2 S2 F2 (e1.trans e2) m2 q2
  | true =>
    rw [if_pos rfl] at q1 ⊢
    exact k true H1 ρ1 S1 F1 e1 m1 q1
theorem rt_not {K : PySem.W.Frag} (ha : RT K L tA wA) : RT K L (tNot tA) (wNot wA) := by
  intro F ρ S σ H Q R m q k
  exact ha F ρ S σ H _ _ m q fun c H1 ρ1 S1 F1 e1 m1 q1 => k (!c) H1 ρ1 S1 F1 e1 m1 q1
theorem dw_and1 (h : DT X L a tA wA) : DW X L (.BoolOp .And [a] pos) tA wA := ⟨pw_and1 h.pt, h.rt⟩
theorem dw_or1 (h : DT X L a tA wA) : DW X L (.BoolOp .Or [a] pos) tA wA := ⟨pw_or1 h.pt, h.rt⟩
theorem dw_and (h : DT X L a tA wA) (g : DW X L (.BoolOp .And (b :: rest) pos) tB' wB) : DW X L (.BoolOp .And (a :: b :: rest) pos) (tAnd tA tB') (wAnd wA wB) := ⟨pw_and h.pt g.pw, rt_and h.rt g.rt⟩
theorem dw_or (h : DT X L a tA wA) (g : DW X L (.BoolOp .Or (b :: rest) pos) tB' wB) : DW X L (.BoolOp .Or (a :: b :: rest) pos) (tOr tA tB') (wOr wA wB) := ⟨pw_or h.pt g.pw, rt_or h.rt g.rt⟩
theorem dt_w (h : DW X L a tA wA) : DT X L a tA wA := ⟨h.pw.pt, h.rt⟩
theorem dt_not (h : DT X L a tA wA) : DT X L (.UnaryOp .Not a pos) (tNot tA) (wNot wA) := ⟨pt_not h.pt, rt_not h.rt⟩
/-- .. as values -/
def wAndV (wa wb : WE) : WE := fun ρ S Q => wa ρ S fun x ρ1 S1 => ∃ c, x = .bl c ∧ if c = true then wb ρ1 S1 Q else Q (.bl false) ρ1 S1
def wOrV (wa wb : WE) : WE := fun ρ S Q => wa ρ S fun x ρ1 S1 => ∃ c, x = .bl c ∧ if c = true then Q (.bl true) ρ1 S1 else wb ρ1 S1 Q
def wNotV (wa : WE) : WE := fun ρ S Q => wa ρ S fun x ρ1 S1 => ∃ c, x = .bl c ∧ Q (.bl (!c)) ρ1 S1
theorem re_andV {K : PySem.W.Frag} (ha : RE K L ta wa) (hb : RE K L tb wb) : RE K L (tAndV ta tb) (wAndV wa wb) := by
  intro F ρ S σ H Q R m q k
  refine ha F ρ S σ H _ _ m q fun x H1 dx ρ1 S1 F1 e1 m1 r1 ⟨c, e, q1⟩ => ?_
  subst e
  cases r1
  refine ⟨c, rfl, ?_⟩
  cases c with
  | true =>
    rw [if_pos rfl] at q1 ⊢
    exact hb F1 ρ1 S1 σ H1 _ _ m1 q1 fun v H2 d ρ2 S2 F2 e2 m2 r2 q2 => k v H2 d ρ2 S2 F2 (e1.trans e2) m2 r2 q2
  | false =>
    rw [if_neg Bool.false_ne_true] at q1 ⊢
    exact k _ H1 _ ρ1 S1 F1 e1 m1 (.bl false) q1
theorem re_orV {K : PySem.W.Frag} (ha : RE K L ta wa) (hb : RE K L tb wb) : RE K L (tOrV ta tb) (wOrV wa wb) := by
  intro F ρ S σ H Q R m q k
  refine ha F ρ S σ H _ _ m q fun x H1 dx ρ1 S1 F1 e1 m1 r1 ⟨c, e, q1⟩ => ?_
  subst e
  cases r1
  refine ⟨c, rfl, ?_⟩
  cases c with
  | false =>
    rw [if_neg Bool.false_ne_true] at q1 ⊢
    exact hb F1 ρ1 S1 σ H1 _ _ m1 q1 fun v H2 d ρ2 S2 F2 e2 m2 r2 q2 => k v H2 d ρ2 S2 F2 (e1.trans e2) m2 r2 q2
  | true =>
    rw [if_pos rfl] at q1 ⊢
    exact k _ H1 _ ρ1 S1 F1 e1 m1 (.bl true) q1
theorem re_notV {K : PySem.W.Frag} (ha : RE K L ta wa) : RE K L (tNotV ta) (wNotV wa) := by
  intro F ρ S σ H Q R m q k
  refine ha F ρ S σ H _ _ m q fun x H1 dx ρ1 S1 F1 e1 m1 r1 ⟨c, e, q1⟩ => ?_
  subst e
  cases r1
  exact ⟨c, rfl, k _ H1 _ ρ1 S1 F1 e1 m1 (.bl _) q1⟩
theorem de_one {op : BoolOp} (h : DE X L a ta wa) : DE X L (.BoolOp op [a] pos) ta wa := ⟨pe_one h.pe, h.re⟩
theorem de_and (h : DE X L a ta wa) (g : DE X L (.BoolOp .And (b :: rest) pos) tb wb) : DE X L (.BoolOp .And (a :: b :: rest) pos) (tAndV ta tb) (wAndV wa wb) := ⟨pe_and h.pe g.pe, re_andV h.re g.re⟩
theorem de_or (h : DE X L a ta wa) (g : DE X L (.BoolOp .Or (b :: rest) pos) tb wb) : DE X L (.BoolOp .Or (a :: b :: rest) pos) (tOrV ta tb) (wOrV wa wb) := ⟨pe_or h.pe g.pe, re_orV h.re g.re⟩
theorem de_not (h : DE X L a ta wa) : DE X L (.UnaryOp .Not a pos) (tNotV ta) (wNotV wa) := ⟨pe_not h.pe, re_notV h.re⟩
def wIf (w : WT) (wa wb : WE) : WE := fun ρ S Q => w ρ S fun c ρ1 S1 => if c = true then wa ρ1 S1 Q else wb ρ1 S1 Q
theorem re_if {K : PySem.W.Frag} (h : RT K L tA wA) (ha : RE K L ta wa) (hb : RE K L tb wb) : RE K L (tIf tA ta tb) (wIf wA wa wb) := by
  intro F ρ S σ H Q R m q k
  refine h F ρ S σ H _ _ m q fun c H1 ρ1 S1 F1 e1 m1 q1 => ?_
  cases c with
  | true =>
    rw [if_pos rfl] at q1 ⊢
    exact ha F1 ρ1 S1 σ H1 _ _ m1 q1 fun v H2 d ρ2 S2 F2 e2 m2 r2 q2 => k v H2 d ρ2 S2 F2 (e1.trans e2) m2 r2 q2
  | false =>
    rw [if_neg Bool.false_ne_true] at q1 ⊢
    exact hb F1 ρ1 S1 σ H1 _ _ m1 q1 fun v H2 d ρ2 S2 F2 e2 m2 r2 q2 => k v H2 d ρ2 S2 F2 (e1.trans e2) m2 r2 q2
theorem de_if (h : DT X L c tA wA) (ha : DE X L a ta wa) (hb : DE X L b tb wb) : DE X L (.IfExp c a b pos) (tIf tA ta tb) (wIf wA wa wb) := ⟨pe_ifExp h.pt ha.pe hb.pe, re_if h.rt ha.re hb.re⟩
/-! ### arguments, displays -/
variable {es : List Expr} {tr : TA} {wr : WA}
def wNil : WA := fun ρ S Q => Q [] ρ S
def wCons (wa : WE) (wr : WA) : WA := fun ρ S Q => wa ρ S fun x ρ1 S1 => wr ρ1 S1 fun xs ρ2 S2 => Q (x :: xs) ρ2 S2
theorem ra_nil {K : PySem.W.Frag} : RA K L tNil wNil := fun F ρ S σ H Q R m q k => k [] H [] ρ S F (ExF.refl F) m .nil q
theorem ra_cons {K : PySem.W.Frag} (ha : RE K L ta wa) (hr : RA K L tr wr) : RA K L (tCons ta tr) (wCons wa wr) := by
  intro F ρ S σ H Q R m q k
  refine ha F ρ S σ H _ _ m q fun x H1 dx ρ1 S1 F1 e1 m1 r1 q1 => ?_
  exact hr F1 ρ1 S1 σ H1 _ _ m1 q1 fun vs H2 ds ρ2 S2 F2 e2 m2 r2 q2 => k _ H2 _ ρ2 S2 F2 (e1.trans e2) m2 (.cons (r1.up e2) r2) q2
theorem da_nil : DA X L [] tNil wNil := ⟨pa_nil, ra_nil⟩
theorem da_cons (h : DE X L a ta wa) (g : DA X L es tr wr) (hs : starEach (a :: es) X.env = (false, eval a X.env) :: starEach es X.env := by rfl) : DA X L (a :: es) (tCons ta tr) (wCons wa wr) := ⟨pa_cons h.pe g.pa hs, ra_cons h.re g.ra⟩
def wTup (wr : WA) : WE := fun ρ S Q => wr ρ S fun xs ρ1 S1 => xs.length ≤ sizeLine ∧ Q (.tup xs) ρ1 S1
def wLst (m : Bool) (wr : WA) : WE := fun ρ S Q => wr ρ S fun xs ρ1 S1 => xs.length ≤ sizeLine ∧ newL m xs S1 fun d S2 => Q d ρ1 S2
theorem re_tup {K : PySem.W.Frag} (h : RA K L tr wr) : RE K L (tTupF tr) (wTup wr) := by
  intro F ρ S σ H Q R m q k
  refine h F ρ S σ H _ _ m q fun vs H1 ds ρ1 S1 F1 e1 m1 r1 ⟨z, q1⟩ => ⟨by rw [← r1.length]; exact z, fun p o hp ho => ?_⟩
  exact newT_ok (Q := fun d S2 => Q d ρ1 S2) (fun v H' d S' F' e x r q => k v H' d ρ1 S' F' (e1.trans e) (m1.step e x) r q) m1.fs r1 q1 hp ho
theorem re_lst {K : PySem.W.Frag} {mu : Bool} (h : RA K L tr wr) : RE K L (tLst tr) (wLst mu wr) := by
  intro F ρ S σ H Q R m q k
  refine h F ρ S σ H _ _ m q fun vs H1 ds ρ1 S1 F1 e1 m1 r1 ⟨z, q1⟩ => ⟨by rw [← r1.length]; exact z, fun p hp => ?_⟩
  exact newL_ok (Q := fun d S2 => Q d ρ1 S2) (fun v H' d S' F' e x r q => k v H' d ρ1 S' F' (e1.trans e) (m1.step e x) r q) m1.fs r1 q1 hp
theorem de_tup {x1} (h : DA X L es tr wr) : DE X L (.Tuple es x1 pos) (tTupF tr) (wTup wr) := ⟨pe_tupF h.pa, re_tup h.ra⟩
theorem de_lst (m : Bool) (h : DA X L es tr wr) : DE X L (.List es pos) (tLst tr) (wLst m wr) := ⟨pe_lst h.pa, re_lst h.ra⟩
end
end DL
/-! DL3: statements, targets, loops, comprehensions over data. -/
namespace DL
open PySem PySem.Spec PyProof.Rows L2
structure DEnds where
  nx : Rho → MS → Prop
  rt : D → MS → Prop
  bk : Rho → MS → Prop := fun _ _ => False
  ct : Rho → MS → Prop := fun _ _ => False
abbrev WS := DEnds → Rho → MS → Prop
structure LE (K : PySem.W.Frag) (L : Lk) (F : Hp) (De : DEnds) (D : Ends) : Prop where
  nx : ∀ F' ρ' S' σ' H', ExF F F' → Mt K L F' ρ' S' σ' H' → De.nx ρ' S' → D.nx σ' H'
  rt : ∀ F' S' H' v d, ExF F F' → FS K F' S' H' → Rep K F' d v → De.rt d S' → D.rt v H'
  bk : ∀ F' ρ' S' σ' H', ExF F F' → Mt K L F' ρ' S' σ' H' → De.bk ρ' S' → D.bk σ' H'
  ct : ∀ F' ρ' S' σ' H', ExF F F' → Mt K L F' ρ' S' σ' H' → De.ct ρ' S' → D.ct σ' H'
theorem LE.up {K : PySem.W.Frag} {L : Lk} {F F1 : Hp} {De : DEnds} {D : Ends} (l : LE K L F De D) (e : ExF F F1) : LE K L F1 De D :=
  ⟨fun F' ρ' S' σ' H' e' => l.nx F' ρ' S' σ' H' (e.trans e'), fun F' S' H' v d e' => l.rt F' S' H' v d (e.trans e'), fun F' ρ' S' σ' H' e' => l.bk F' ρ' S' σ' H' (e.trans e'), fun F' ρ' S' σ' H' e' => l.ct F' ρ' S' σ' H' (e.trans e')⟩
def RS (K : PySem.W.Frag) (L : Lk) (t : TS) (w : WS) : Prop := ∀ F ρ S σ H De D, Mt K L F ρ S σ H → w De ρ S → LE K L F De D → t D σ H
structure DS (X : Cx) (L : Lk) (st : Stmt) (t : TS) (w : WS) : Prop where
  ps : PS X st t
  rs : RS X.K L t w
structure DB (X : Cx) (L : Lk) (st : List Stmt) (t : TS) (w : WS) : Prop where
  ps : PSs X st t
  rs : RS X.K L t w
section
variable {X : Cx} {L : Lk} {st : Stmt} {rest : List Stmt} {t u : TS} {w wu : WS} {e : Expr} {te : TE} {we : WE} {pos : Pos} {K : PySem.W.Frag}
def wSeq (w u : WS) : WS := fun De ρ S => w { De with nx := u De } ρ S
def wNext : WS := fun De ρ S => De.nx ρ S
theorem rs_seq (h : RS K L t w) (g : RS K L u wu) : RS K L (tSeq t u) (wSeq w wu) := fun F ρ S σ H De D m q l =>
  h F ρ S σ H _ _ m q ⟨fun F' ρ' S' σ' H' e' m' q' => g F' ρ' S' σ' H' De D m' q' (l.up e'), l.rt, l.bk, l.ct⟩
theorem rs_next : RS K L tNext wNext := fun F ρ S σ H De D m q l => l.nx F ρ S σ H (ExF.refl F) m q
theorem db_nil : DB X L [] tNext wNext := ⟨pss_nil, rs_next⟩
theorem db_one (h : DS X L st t w) : DB X L [st] t w := ⟨pss_one h.ps, h.rs⟩
theorem db_cons (h : DS X L st t w) (g : DB X L rest u wu) : DB X L (st :: rest) (tSeq t u) (wSeq w wu) := ⟨pss_cons h.ps g.ps, rs_seq h.rs g.rs⟩
theorem ds_pass : DS X L (.Pass pos) tNext wNext := ⟨ps_pass, rs_next⟩
def wBreak : WS := fun De ρ S => De.bk ρ S
def wCont : WS := fun De ρ S => De.ct ρ S
theorem ds_break : DS X L (.Break pos) tBreak wBreak := ⟨ps_break, fun F ρ S σ H De D m q l => l.bk F ρ S σ H (ExF.refl F) m q⟩
theorem ds_continue : DS X L (.Continue pos) tCont wCont := ⟨ps_continue, fun F ρ S σ H De D m q l => l.ct F ρ S σ H (ExF.refl F) m q⟩
def wDrop (we : WE) : WS := fun De ρ S => we ρ S fun _ ρ1 S1 => De.nx ρ1 S1
theorem rs_drop (h : RE K L te we) : RS K L (tDrop te) (wDrop we) := fun F ρ S σ H De D m q l =>
  h F ρ S σ H _ _ m q fun v H1 d ρ1 S1 F1 e1 m1 r1 q1 => l.nx F1 ρ1 S1 σ H1 e1 m1 q1
theorem ds_expr (h : DE X L e te we) (hs : swapsWith e none pos.line X.env = pure false := by rfl) : DS X L (.Expr e pos) (tDrop te) (wDrop we) := ⟨ps_expr h.pe hs, rs_drop h.re⟩
def wRet (we : WE) : WS := fun De ρ S => we ρ S fun d _ S1 => De.rt d S1
theorem rs_ret (h : RE K L te we) : RS K L (tRet te) (wRet we) := fun F ρ S σ H De D m q l =>
  h F ρ S σ H _ _ m q fun v H1 d ρ1 S1 F1 e1 m1 r1 q1 => l.rt F1 S1 H1 v d e1 m1.fs r1 q1
theorem ds_ret (h : DE X L e te we) : DS X L (.Return (some e) pos) (tRet te) (wRet we) := ⟨ps_ret h.pe, rs_ret h.re⟩
def wRetN : WS := fun De _ S => De.rt .non S
theorem ds_retN : DS X L (.Return none pos) tRetN wRetN := ⟨ps_retN, fun F ρ S σ H De D m q l => l.rt F S H .non .non (ExF.refl F) m.fs .non q⟩
def wIfS (c : WT) (w u : WS) : WS := fun De ρ S => c ρ S fun b ρ1 S1 => if b = true then w De ρ1 S1 else u De ρ1 S1
theorem rs_if {tc : TT} {wc : WT} (hc : RT K L tc wc) (h : RS K L t w) (g : RS K L u wu) : RS K L (tIfS tc t u) (wIfS wc w wu) := fun F ρ S σ H De D m q l =>
  hc F ρ S σ H _ _ m q fun b H1 ρ1 S1 F1 e1 m1 q1 => by
    cases b with
    | true =>
      rw [if_pos rfl] at q1 ⊢
      exact h F1 ρ1 S1 σ H1 De D m1 q1 (l.up e1)
    | false =>
      rw [if_neg Bool.false_ne_true] at q1 ⊢
      exact g F1 ρ1 S1 σ H1 De D m1 q1 (l.up e1)
theorem ds_if {c : Expr} {a b : List Stmt} {tc : TT} {wc : WT} (hc : DT X L c tc wc) (h : DB X L a t w) (g : DB X L b u wu) : DS X L (.If c a b pos) (tIfS tc t u) (wIfS wc w wu) := ⟨ps_if hc.pt h.ps g.ps, rs_if hc.rt h.rs g.rs⟩
def wNever : WS := fun _ _ _ => False
theorem ds_never : DS X L st tNever wNever := ⟨ps_never, fun _ _ _ _ _ _ _ _ q _ => q.elim⟩
theorem db_never {sts : List Stmt} : DB X L sts tNever wNever := ⟨pss_never, fun _ _ _ _ _ _ _ _ q _ => q.elim⟩
end
/-! ### targets -/
abbrev WG := D → Rho → MS → (Rho → MS → Prop) → Prop
abbrev WGs := List D → Rho → MS → (Rho → MS → Prop) → Prop
def RG (K : PySem.W.Frag) (L : Lk) (vs : List Nat) (g : TG) (wg : WG) : Prop := ∀ F ρ S σ H d v (Q : Rho → MS → Prop) (R : L2.St → Hp → Prop), Mt K L F ρ S σ H → Rep K F d v → wg d ρ S Q →
  (∀ F' ρ' S' σ' H', ExF F F' → Mt K L F' ρ' S' σ' H' → wipe σ' vs = wipe σ vs → Q ρ' S' → R σ' H') → g v σ H R
def RGs (K : PySem.W.Frag) (L : Lk) (vs : List Nat) (g : TGs) (wg : WGs) : Prop := ∀ F ρ S σ H ds us (Q : Rho → MS → Prop) (R : L2.St → Hp → Prop), Mt K L F ρ S σ H → Reps K F ds us → wg ds ρ S Q →
  (∀ F' ρ' S' σ' H', ExF F F' → Mt K L F' ρ' S' σ' H' → wipe σ' vs = wipe σ vs → Q ρ' S' → R σ' H') → g us σ H R
structure DG (X : Cx) (L : Lk) (vs : List Nat) (tg : Expr) (g : TG) (wg : WG) : Prop where
  pg : PG X tg g
  rg : RG X.K L vs g wg
structure DGs (X : Cx) (L : Lk) (vs : List Nat) (tg : List Expr) (g : TGs) (wg : WGs) : Prop where
  pg : PGs X tg g
  rg : RGs X.K L vs g wg
theorem wipe_get {σ : L2.St} {j : Nat} : ∀ {vs : List Nat}, (wipe σ vs)[j]? = if j ∈ vs ∧ j < σ.length then some none else σ[j]?
  | [] => by simp [wipe]
  | v :: vs => by
    unfold wipe
    rw [List.getElem?_set]
    rw [wipe_length, wipe_get (vs := vs)]
    by_cases h : v = j
    · subst h
      by_cases hl : v < σ.length
      · simp [hl]
      · simp [hl, List.getElem?_eq_none (Nat.le_of_not_lt hl)]
    · simp [h, Ne.symm h]
theorem wipe_eq {σ σ' : L2.St} {vs : List Nat} (hl : σ'.length = σ.length) (h : ∀ j, j ∉ vs → σ'[j]? = σ[j]?) : wipe σ' vs = wipe σ vs := by
  apply List.ext_getElem?
  intro j
  rw [wipe_get, wipe_get, hl]
  by_cases hj : j ∈ vs ∧ j < σ.length
  · rw [if_pos hj, if_pos hj]
  · rw [if_neg hj, if_neg hj]
    by_cases hv : j ∈ vs
    · have : ¬ j < σ.length := fun z => hj ⟨hv, z⟩
      rw [List.getElem?_eq_none (by omega), List.getElem?_eq_none (by omega)]
    · exact h j hv
theorem wipe_set {σ : L2.St} {i : Nat} {v : V} {vs : List Nat} (h : i ∈ vs) : wipe (σ.set i (some v)) vs = wipe σ vs :=
  wipe_eq (by simp) fun j hj => List.getElem?_set_ne (fun z => by subst z; exact hj h)
section
variable {X : Cx} {L : Lk} {pos : Pos} {K : PySem.W.Frag} {vs : List Nat}
def wgName (i : Nat) : WG := fun d ρ S Q => Q (ρ.set i (some d)) S
theorem rg_name {i : Nat} (h : i ∈ vs) : RG K L vs (gName i) (wgName i) := fun F ρ S σ H d v Q R m r q k =>
  k F _ S _ H (ExF.refl F) (m.store r) (wipe_set h) q
theorem dg_name (i : Nat) {x : Str} (h : i ∈ vs) (hN : X.N.Nodup) (hi : X.N[i]? = some x := by rfl) (hx : Loc X.env.scope x := by first | exact Or.inl rfl | exact Or.inr rfl) (hf : X.fn x = true ∨ X.env.scope.names.lookup x = some .local := by first | exact .inl rfl | exact .inr rfl | assumption) :
    DG X L vs (.Name x pos) (gName i) (wgName i) := ⟨pg_name hN hi hx hf, rg_name h⟩
def wgNil : WGs := fun ds ρ S Q => ds = [] ∧ Q ρ S
def wgCons (w : WG) (u : WGs) : WGs := fun ds ρ S Q => match ds with
  | d :: r => w d ρ S fun ρ1 S1 => u r ρ1 S1 Q
  | [] => False
theorem dgs_nil : DGs X L vs [] gNil wgNil := ⟨pgs_nil, fun F ρ S σ H ds us Q R m r ⟨e, q⟩ k => by
  subst e
  cases r
  exact ⟨rfl, k F ρ S σ H (ExF.refl F) m rfl q⟩⟩
theorem dgs_cons {e : Expr} {es : List Expr} {g : TG} {u : TGs} {w : WG} {wu : WGs} (h : DG X L vs e g w) (k : DGs X L vs es u wu)
    (hs : (assignEach (e :: es) X.env).map (·.2) = assign e X.env :: (assignEach es X.env).map (·.2) := by rfl) : DGs X L vs (e :: es) (gCons g u) (wgCons w wu) := by
  refine ⟨pgs_cons h.pg k.pg hs, fun F ρ S σ H ds us Q R m r q kk => ?_⟩
  cases r with
  | nil => exact q.elim
  | cons r1 r2 =>
    refine ⟨_, _, rfl, h.rg F ρ S σ H _ _ _ _ m r1 q fun F1 ρ1 S1 σ1 H1 e1 m1 w1 q1 => ?_⟩
    exact k.rg F1 ρ1 S1 σ1 H1 _ _ _ _ m1 (r2.up e1) q1 fun F2 ρ2 S2 σ2 H2 e2 m2 w2 q2 => kk F2 ρ2 S2 σ2 H2 (e1.trans e2) m2 (w2.trans w1) q2
def wgTup (w : WGs) : WG := fun d ρ S Q => ∃ ds, (d = .tup ds ∨ d = .wtup ds) ∧ w ds ρ S Q
def lenOk (n : Nat) (w : WGs) : WGs := fun ds ρ S Q => ds.length = n ∧ w ds ρ S Q
theorem dg_tup {es : List Expr} {k : Nat} {g : TGs} {w : WGs} {n : Nat} (hc : X.calm = true) (h : DGs X L vs es g w)
    (hn : (assignEach es X.env).length = n := by rfl) (hst : (assignEach es X.env).findIdx? (·.1) = none := by rfl) : DG X L vs (.Tuple es k pos) (gTup X.K n g) (wgTup (lenOk n w)) := by
  refine ⟨pg_tup hc h.pg hn hst, fun F ρ S σ H d v Q R m r ⟨ds, e, hl, q⟩ kk => ?_⟩
  rcases e with rfl | rfl
  · cases r with
    | tup h1 h2 => exact ⟨_, _, rfl, exf_t m.fs.fr h1.sq, by rw [← h2.length]; exact hl, h.rg F ρ S σ H _ _ _ _ m h2 q kk⟩
  · cases r with
    | wtup h1 h2 => exact ⟨_, _, rfl, exf_t m.fs.fr h1, by rw [← h2.length]; exact hl, h.rg F ρ S σ H _ _ _ _ m h2 q kk⟩
end
/-! ### assignments -/
section
variable {X : Cx} {L : Lk} {e : Expr} {te : TE} {we : WE} {pos : Pos} {K : PySem.W.Frag}
def wAsg (we : WE) (wg : WG) : WS := fun De ρ S => we ρ S fun d ρ1 S1 => wg d ρ1 S1 De.nx
theorem rs_asg {g : TG} {wg : WG} {vs : List Nat} (h : RE K L te we) (hg : RG K L vs g wg) : RS K L (tAsg te g) (wAsg we wg) := fun F ρ S σ H De D m q l =>
  h F ρ S σ H _ _ m q fun v H1 d ρ1 S1 F1 e1 m1 r1 q1 => hg F1 ρ1 S1 σ H1 d v _ _ m1 r1 q1 fun F2 ρ2 S2 σ2 H2 e2 m2 _ q2 => l.nx F2 ρ2 S2 σ2 H2 (e1.trans e2) m2 q2
theorem ds_set (i : Nat) {x : Str} {pos' : Pos} (hN : X.N.Nodup) (h : DE X L e te we) (hi : X.N[i]? = some x := by rfl) (hx : Loc X.env.scope x := by first | exact Or.inl rfl | exact Or.inr rfl) (hs : swapsWith e (some (.Name x pos')) pos.line X.env = pure false := by rfl)
    (hf : X.fn x = true ∨ X.env.scope.names.lookup x = some .local := by first | exact .inl rfl | exact .inr rfl | assumption) : DS X L (.Assign [.Name x pos'] e pos) (tAsg te (gName i)) (wAsg we (wgName i)) :=
  ⟨ps_set hN hi hx h.pe hs hf, rs_asg (vs := [i]) h.re (rg_name (List.mem_singleton.mpr rfl))⟩
theorem ds_asg {tg : Expr} {g : TG} {wg : WG} {vs : List Nat} (h : DE X L e te we) (hg : DG X L vs tg g wg) (hs : swapsWithSole [tg] e pos.line X.env = pure false := by rfl) (hw : swappedStores [tg] e X.env = pure none := by rfl)
    (h1 : (assignEach [tg] X.env).map (·.2) = [assign tg X.env] := by rfl) : DS X L (.Assign [tg] e pos) (tAsg te g) (wAsg we wg) := ⟨ps_asg h.pe hg.pg hs hw h1, rs_asg h.re hg.rg⟩
/-- two names, two values: no tuple is made -/
def wPar (i j : Nat) (wa : WA) : WS := fun De ρ S => wa ρ S fun ds ρ1 S1 => ∃ x y, ds = [x, y] ∧ De.nx ((ρ1.set i (some x)).set j (some y)) S1
theorem ds_par (i j : Nat) {x y : Str} {a b : Expr} {ta : TA} {wa : WA} {px py pt : Pos} {kt k2 : Nat} {pt2 : Pos} (hc : X.calm = true) (hN : X.N.Nodup) (hij : i ≠ j) (ha : DA X L [a, b] ta wa) (hi : X.N[i]? = some x := by rfl) (hj : X.N[j]? = some y := by rfl)
    (hx : X.env.scope.names.lookup x = some .local := by rfl) (hy : X.env.scope.names.lookup y = some .local := by rfl)
    (hw : swappedStores [.Tuple [.Name x px, .Name y py] kt pt] (.Tuple [a, b] k2 pt2) X.env = pure (some [x, y]) := by rfl)
    (hs : swapsWithSole [.Tuple [.Name x px, .Name y py] kt pt] (.Tuple [a, b] k2 pt2) pos.line X.env = pure false := by rfl) :
    DS X L (.Assign [.Tuple [.Name x px, .Name y py] kt pt] (.Tuple [a, b] k2 pt2) pos) (tPar i j ta) (wPar i j wa) := by
  refine ⟨ps_par hc hN hi hj hij hx hy ha.pa hw hs, fun F ρ S σ H De D m q l => ?_⟩
  refine ha.ra F ρ S σ H _ _ m q fun vs H1 ds ρ1 S1 F1 e1 m1 r1 ⟨u, v, e, q1⟩ => ?_
  subst e
  cases r1 with
  | cons r1 r2 =>
    cases r2 with
    | cons r2 r3 =>
      cases r3
      exact ⟨_, _, rfl, l.nx F1 _ S1 _ H1 e1 ((m1.store r1).store r2) q1⟩
/-- name op= e -/
def RIp (K : PySem.W.Frag) (t : TIp) (wo : D → D → MS → KV2 → Prop) : Prop := RO2 K t wo
def wAug (i : Nat) (wo : D → D → MS → KV2 → Prop) (we : WE) : WS := fun De ρ S => ∃ x, ρ[i]? = some (some x) ∧ we ρ S fun y ρ1 S1 => wo (rd S1 x) (rd S1 y) S1 fun d S2 => De.nx (ρ1.set i (some d)) S2
theorem ds_aug (i : Nat) {x : Str} {op : Operator} {ti : TIp} {wo : D → D → MS → KV2 → Prop} {pos' : Pos} (hN : X.N.Nodup) (ho : PIp X op ti) (hr : RO2 X.K ti wo) (h : DE X L e te we) (hi : X.N[i]? = some x := by rfl) (hx : Loc X.env.scope x := by first | exact Or.inl rfl | exact Or.inr rfl)
    (hf : X.fn x = true ∨ X.env.scope.names.lookup x = some .local := by first | exact .inl rfl | exact .inr rfl | assumption) : DS X L (.AugAssign (.Name x pos') op e pos) (tAug i te ti) (wAug i wo we) := by
  refine ⟨ps_aug hN hi hx h.pe ho hf, fun F ρ S σ H De D m ⟨d, hd, q⟩ l => ?_⟩
  obtain ⟨v, hv, r⟩ := m.sl i d hd
  refine ⟨v, hv, h.re F ρ S σ H _ _ m q fun y H1 dy ρ1 S1 F1 e1 m1 r1 q1 => ?_⟩
  refine hr F1 S1 H1 _ _ v y _ _ m1.fs (rd_ok m1.fs (r.up e1)) (rd_ok m1.fs r1) q1 fun z H2 dz S2 F2 e2 x2 r2 q2 => ?_
  exact l.nx F2 _ S2 _ H2 (e1.trans e2) ((m1.step e2 x2).store r2) q2
end
/-! ### what is walked -/
structure WalkD (K : PySem.W.Frag) (F : Hp) (J : It) (ds : List D) (g : MS → Prop) : Prop where
  goes : ∀ i F' S' H', i < ds.length → ExF F F' → FS K F' S' H' → g S' → J.go i H'
  stops : ∀ F' S' H', ExF F F' → FS K F' S' H' → g S' → J.stop ds.length H'
  yields : ∀ i F' S' H' x H2, i < ds.length → ExF F F' → FS K F' S' H' → g S' → J.yld i H' x H2 → ∃ d F2, ds[i]? = some d ∧ ExF F' F2 ∧ FS K F2 S' H2 ∧ Rep K F2 d x
abbrev WI := Rho → MS → (List D → (MS → Prop) → Rho → MS → Prop) → Prop
def RI (K : PySem.W.Frag) (L : Lk) (t : TI) (w : WI) : Prop := ∀ F ρ S σ H (Q : List D → (MS → Prop) → Rho → MS → Prop) (R : It → Hp → Prop), Mt K L F ρ S σ H → w ρ S Q →
  (∀ J H' ds g ρ' S' F', ExF F F' → Mt K L F' ρ' S' σ H' → WalkD K F' J ds g → Q ds g ρ' S' → R J H') → t σ H R
structure DI (X : Cx) (L : Lk) (tg iter : Expr) (t : TI) (w : WI) : Prop where
  pi : PI X tg iter t
  ri : RI X.K L t w
def noG : MS → Prop := fun _ => True
/-! ### for -/
def forW (g : MS → Prop) (wg : WG) (wb : WS) (De : DEnds) : List D → Rho → MS → Prop
  | [] => fun ρ S => g S ∧ De.nx ρ S
  | d :: r => fun ρ S => g S ∧ wg d ρ S fun ρ1 S1 => wb { De with nx := forW g wg wb De r, ct := forW g wg wb De r, bk := De.nx } ρ1 S1
theorem forW_g {g : MS → Prop} {wg : WG} {wb : WS} {De : DEnds} : ∀ {ds : List D} {ρ : Rho} {S : MS}, forW g wg wb De ds ρ S → g S
  | [], _, _, h => h.1
  | _ :: _, _, _, h => h.1
def wFor (wi : WI) (wg : WG) (wb : WS) : WS := fun De ρ S => wi ρ S fun ds g ρ1 S1 => forW g wg wb De ds ρ1 S1
section
variable {X : Cx} {L : Lk} {pos : Pos} {K : PySem.W.Frag}
theorem walk_of_d {F : Hp} {J : It} {ds : List D} {g : MS → Prop} (w : WalkD K F J ds g) :
    Walk J ds.length (fun H => ∃ F' S', ExF F F' ∧ FS K F' S' H ∧ g S') (fun i H x H2 => ∀ F' S', ExF F F' → FS K F' S' H → g S' → ∃ d F2, ds[i]? = some d ∧ ExF F' F2 ∧ FS K F2 S' H2 ∧ Rep K F2 d x) :=
  ⟨fun i H hi ⟨F', S', e, x, h⟩ => w.goes i F' S' H hi e x h, fun H ⟨F', S', e, x, h⟩ => w.stops F' S' H e x h, fun i H x H2 hi _ y F' S' e z h => w.yields i F' S' H x H2 hi e z h y⟩
theorem rs_for {ti : TI} {wi : WI} {g : TG} {wg : WG} {tb : TS} {wb : WS} {vs : List Nat} (hi : RI K L ti wi) (hg : RG K L vs g wg) (hb : RS K L tb wb) : RS K L (tFor ti g tb) (wFor wi wg wb) := by
  intro F ρ S σ H De D m q l
  refine hi F ρ S σ H _ _ m q fun J H1 ds gd ρ1 S1 F1 e1 m1 wk q1 => ?_
  refine for_it (walk_of_d wk) (fun i σ H => ∃ F' ρ' S', ExF F1 F' ∧ Mt K L F' ρ' S' σ H ∧ forW gd wg wb De (ds.drop i) ρ' S') ⟨F1, ρ1, S1, ExF.refl F1, m1, q1⟩ (fun i σ H _ ⟨F', ρ', S', e, m', q'⟩ => ⟨F', S', e, m'.fs, forW_g q'⟩) ?_ ?_
  · rintro i x σ2 H2 H3 hlt ⟨F', ρ', S', e, m', q'⟩ y
    obtain ⟨d, F3, hd, e3, x3, r3⟩ := y F' S' e m'.fs (forW_g q')
    have hdrop : ds.drop i = d :: ds.drop (i + 1) := by
      obtain ⟨h1, h2⟩ := List.getElem?_eq_some_iff.mp hd
      rw [← h2]
      exact List.drop_eq_getElem_cons h1
    rw [hdrop] at q'
    have m3 := m'.step e3 x3
    refine hg F3 ρ' S' σ2 H3 d x _ _ m3 r3 q'.2 fun F4 ρ4 S4 σ4 H4 e4 m4 _ q4 => ?_
    have ex4 : ExF F1 F4 := (e.trans e3).trans e4
    refine hb F4 ρ4 S4 σ4 H4 _ _ m4 q4 ⟨fun F5 ρ5 S5 σ5 H5 e5 m5 q5 => ⟨F5, ρ5, S5, ex4.trans e5, m5, q5⟩, fun F5 S5 H5 v d e5 => l.rt F5 S5 H5 v d ((e1.trans ex4).trans e5), fun F5 ρ5 S5 σ5 H5 e5 => l.nx F5 ρ5 S5 σ5 H5 ((e1.trans ex4).trans e5), fun F5 ρ5 S5 σ5 H5 e5 m5 q5 => ⟨F5, ρ5, S5, ex4.trans e5, m5, q5⟩⟩
  · rintro σ2 H2 ⟨F', ρ', S', e, m', q'⟩
    rw [List.drop_length] at q'
    exact l.nx F' ρ' S' σ2 H2 (e1.trans e) m' q'.2
theorem ds_for {tg iter : Expr} {body : List Stmt} {ti : TI} {wi : WI} {g : TG} {wg : WG} {tb : TS} {wb : WS} {vs : List Nat} (hp : PassesOwn (model X.prog X.w) X.A X.env X.xe) (hc : X.calm = true) (hi : DI X L tg iter ti wi) (hg : DG X L vs tg g wg) (hb : DB X L body tb wb)
    (hs : ∀ x, foldedSetIterable iter X.env x = pure x := by intro _; rfl) : DS X L (.For tg iter body [] pos) (tFor ti g tb) (wFor wi wg wb) := ⟨ps_for hp hc hi.pi hg.pg hb.ps hs, rs_for hi.ri hg.rg hb.rs⟩
/-- while: the invariant by a measure -/
def wWhile (c : WT) (wb : WS) : WS := fun De ρ S => ∃ W : Nat → Rho → MS → Prop, (∃ n, W n ρ S) ∧ ∀ n ρ S, W n ρ S →
  c ρ S fun b ρ1 S1 => if b = true then wb { De with nx := fun ρ' S' => ∃ n', n' < n ∧ W n' ρ' S', ct := fun ρ' S' => ∃ n', n' < n ∧ W n' ρ' S', bk := De.nx } ρ1 S1 else De.nx ρ1 S1
theorem rs_while {tc : TT} {wc : WT} {tb : TS} {wb : WS} (hc : RT K L tc wc) (hb : RS K L tb wb) : RS K L (tWhile tc tb) (wWhile wc wb) := by
  rintro F ρ S σ H De D m ⟨W, ⟨n0, w0⟩, q⟩ l
  refine ⟨fun n σ' H' => ∃ F' ρ' S', ExF F F' ∧ Mt K L F' ρ' S' σ' H' ∧ W n ρ' S', ⟨n0, F, ρ, S, ExF.refl F, m, w0⟩, ?_⟩
  rintro n σ' H' ⟨F', ρ', S', e, m', w'⟩
  refine hc F' ρ' S' σ' H' _ _ m' (q n ρ' S' w') fun b H1 ρ1 S1 F1 e1 m1 q1 => ?_
  have ex1 := e.trans e1
  cases b with
  | true =>
    rw [if_pos rfl] at q1 ⊢
    refine ⟨fun σ2 H2 => ∃ F2 ρ2 S2, ExF F F2 ∧ Mt K L F2 ρ2 S2 σ2 H2 ∧ ∃ n', n' < n ∧ W n' ρ2 S2, fun σ2 H2 ⟨F2, ρ2, S2, e2, m2, n', hn, w2⟩ => ⟨n', hn, F2, ρ2, S2, e2, m2, w2⟩, ?_⟩
    exact hb F1 ρ1 S1 σ' H1 _ _ m1 q1 ⟨fun F5 ρ5 S5 σ5 H5 e5 m5 q5 => ⟨F5, ρ5, S5, ex1.trans e5, m5, q5⟩, fun F5 S5 H5 v d e5 => l.rt F5 S5 H5 v d (ex1.trans e5), fun F5 ρ5 S5 σ5 H5 e5 => l.nx F5 ρ5 S5 σ5 H5 (ex1.trans e5), fun F5 ρ5 S5 σ5 H5 e5 m5 q5 => ⟨F5, ρ5, S5, ex1.trans e5, m5, q5⟩⟩
  | false =>
    rw [if_neg Bool.false_ne_true] at q1 ⊢
    exact l.nx F1 ρ1 S1 σ' H1 ex1 m1 q1
theorem ds_while {c : Expr} {body : List Stmt} {tc : TT} {wc : WT} {tb : TS} {wb : WS} (hp : PassesOwn (model X.prog X.w) X.A X.env X.xe) (hc : DT X L c tc wc) (hb : DB X L body tb wb) : DS X L (.While c body [] pos) (tWhile tc tb) (wWhile wc wb) :=
  ⟨ps_while hp hc.pt hb.ps, rs_while hc.rt hb.rs⟩
end
/-! ### comprehensions -/
/-- the list that is made stands at a -/
def compW (a : Addr) (g : MS → Prop) (wg : WG) (wt : WT) (we : WE) (Q : MS → Prop) (ρ0 : Rho) : List D → MS → Prop
  | [] => fun S => g S ∧ Q S
  | d :: r => fun S => g S ∧ wg d ρ0 S fun ρ1 S1 => wt ρ1 S1 fun b ρ2 S2 => if b = true then we ρ2 S2 fun x _ S3 => ∃ acc, S3 a = some (.lst acc) ∧ acc.length < sizeLine ∧ compW a g wg wt we Q ρ0 r (S3.set a (.lst (acc ++ [x]))) else compW a g wg wt we Q ρ0 r S2
theorem compW_g {a : Addr} {g : MS → Prop} {wg : WG} {wt : WT} {we : WE} {Q : MS → Prop} {ρ0 : Rho} : ∀ {ds : List D} {S : MS}, compW a g wg wt we Q ρ0 ds S → g S
  | [], _, h => h.1
  | _ :: _, _, h => h.1
def wipeR (ρ : Rho) : List Nat → Rho
  | [] => ρ
  | v :: vs => (wipeR ρ vs).set v none
def endL (m : Bool) (a : Addr) (S : MS) (Q : KV2) : Prop := ∃ acc, S a = some (.lst acc) ∧ if m = true then Q (.ref a) S else Q (.lst acc) (S.del a)
def wLc (m : Bool) (vs : List Nat) (wi : WI) (wg : WG) (wt : WT) (we : WE) : WE := fun ρ S Q => wi ρ S fun ds g ρ1 S1 => ∀ a, S1 a = none → compW a g wg wt we (fun S2 => endL m a S2 fun d S3 => Q d ρ1 S3) (wipeR ρ1 vs) ds (S1.set a (.lst []))
structure DTs (X : Cx) (L : Lk) (ifs : List Expr) (t : TT) (w : WT) : Prop where
  pts : PTs X ifs t
  rt : RT X.K L t w
def wYes : WT := fun ρ S Q => Q true ρ S
section
variable {X : Cx} {L : Lk} {pos : Pos} {K : PySem.W.Frag}
theorem rt_yes : RT K L tYes wYes := fun F ρ S σ H Q R m q k => k true H ρ S F (ExF.refl F) m q
theorem dts_nil : DTs X L [] tYes wYes := ⟨pts_nil, rt_yes⟩
theorem dts_one {c : Expr} {t : TT} {w : WT} (h : DT X L c t w) : DTs X L [c] t w := ⟨pts_one h.pt, h.rt⟩
theorem wipeR_length (ρ : Rho) : ∀ vs, (wipeR ρ vs).length = ρ.length
  | [] => rfl
  | v :: vs => by rw [show wipeR ρ (v :: vs) = (wipeR ρ vs).set v none from rfl, List.length_set, wipeR_length ρ vs]
theorem wipeR_some {ρ : Rho} {j : Nat} {d : D} : ∀ {vs : List Nat}, (wipeR ρ vs)[j]? = some (some d) → ρ[j]? = some (some d) ∧ j ∉ vs
  | [], h => ⟨h, by simp⟩
  | v :: vs, h => by
    rw [show wipeR ρ (v :: vs) = (wipeR ρ vs).set v none from rfl] at h
    by_cases hv : v = j
    · subst hv
      by_cases hl : v < (wipeR ρ vs).length
      · rw [List.getElem?_set_self hl] at h
        cases h
      · rw [List.getElem?_eq_none (by simpa using hl)] at h
        cases h
    · rw [List.getElem?_set_ne hv] at h
      obtain ⟨h1, h2⟩ := wipeR_some h
      exact ⟨h1, by simp only [List.mem_cons, not_or]; exact ⟨fun z => hv z.symm, h2⟩⟩
theorem Mt.wipe {F : Hp} {ρ : Rho} {S : MS} {σ : L2.St} {H : Hp} (m : Mt K L F ρ S σ H) (vs : List Nat) : Mt K L F (wipeR ρ vs) S (wipe σ vs) H := by
  refine ⟨m.fs, fun j d h => ?_, by rw [wipeR_length, wipe_length]; exact m.len, m.lk⟩
  obtain ⟨h1, h2⟩ := wipeR_some h
  obtain ⟨v, h3, r⟩ := m.sl j d h1
  exact ⟨v, by rw [wipe_get, if_neg (fun z => h2 z.1)]; exact h3, r⟩
/-- back from the block: the slots are as they were -/
theorem Mt.back {F F' : Hp} {ρ ρ' : Rho} {S S' : MS} {σ σ' : L2.St} {H H' : Hp} (m : Mt K L F ρ S σ H) (e : ExF F F') (x : FS K F' S' H') : Mt K L F' ρ S' σ H' := m.step e x
theorem re_lc {mu : Bool} {vs : List Nat} {ti : TI} {wi : WI} {g : TG} {wg : WG} {tt : TT} {wt : WT} {te : TE} {we : WE} (hi : RI K L ti wi) (hg : RG K L vs g wg) (ht : RT K L tt wt) (he : RE K L te we) : RE K L (tLc ti g tt te vs) (wLc mu vs wi wg wt we) := by
  intro F ρ S σ H Q R m q k
  refine hi F ρ S σ H _ _ m q fun J H1 ds gd ρ1 S1 F1 e1 m1 wk q1 => ?_
  intro p hp
  obtain ⟨sp, fp⟩ := m1.fs.notS hp
  have x0 : FS K F1 (S1.set p (.lst [])) (upd H1 p (.lst [])) := m1.fs.alloc (m := .lst []) hp rfl ⟨[], upd_same, .nil⟩
  refine lc_it (walk_of_d wk) (fun i H => ∃ F' S', ExF F1 F' ∧ FS K F' S' H ∧ compW p gd wg wt we (fun S2 => endL mu p S2 fun d S3 => Q d ρ1 S3) (wipeR ρ1 vs) (ds.drop i) S') ⟨F1, _, ExF.refl F1, x0, q1 p sp⟩ (fun i H _ ⟨F', S', e, x', q'⟩ => ⟨F', S', e, x', compW_g q'⟩) ?_ ?_
  · rintro i x H2 H3 hlt ⟨F', S', e, x', q'⟩ y
    obtain ⟨d, F3, hd, e3, x3, r3⟩ := y F' S' e x' (compW_g q')
    have hdrop : ds.drop i = d :: ds.drop (i + 1) := by
      obtain ⟨h1, h2⟩ := List.getElem?_eq_some_iff.mp hd
      rw [← h2]
      exact List.drop_eq_getElem_cons h1
    rw [hdrop] at q'
    have m3 : Mt K L F3 (wipeR ρ1 vs) S' (L2.wipe σ vs) H3 := (m1.wipe vs).step (e.trans e3) x3
    have fin : ∀ {F5 : Hp} {S5 : MS} {H5 : Hp}, ExF F3 F5 → FS K F5 S5 H5 → compW p gd wg wt we (fun S2 => endL mu p S2 fun d S3 => Q d ρ1 S3) (wipeR ρ1 vs) (ds.drop (i + 1)) S5 →
        ∃ F' S', ExF F1 F' ∧ FS K F' S' H5 ∧ compW p gd wg wt we (fun S2 => endL mu p S2 fun d S3 => Q d ρ1 S3) (wipeR ρ1 vs) (ds.drop (i + 1)) S' := fun e5 x5 q5 => ⟨_, _, (e.trans e3).trans e5, x5, q5⟩
    refine hg F3 _ S' _ H3 d x _ _ m3 r3 q'.2 fun F4 ρ4 S4 σ4 H4 e4 m4 w4 q4 => ⟨by
      rw [w4]
      exact wipe_eq (wipe_length σ vs) fun j hj => by rw [wipe_get, if_neg (fun z => hj z.1)], ?_⟩
    refine ht F4 ρ4 S4 σ4 H4 _ _ m4 q4 fun b H5 ρ5 S5 F5 e5 m5 q5 => ?_
    cases b with
    | false =>
      rw [if_neg Bool.false_ne_true] at q5 ⊢
      exact fin (e4.trans e5) m5.fs q5
    | true =>
      rw [if_pos rfl] at q5 ⊢
      refine he F5 ρ5 S5 σ4 H5 _ _ m5 q5 fun v H6 dv ρ6 S6 F6 e6 m6 r6 ⟨acc, ha, hz, q6⟩ => ?_
      obtain ⟨_, us, hu, ru⟩ := m6.fs.st p _ ha
      refine ⟨us, hu, by rw [← ru.length]; exact hz, fin ((e4.trans e5).trans e6) (m6.fs.write (n := .lst (acc ++ [dv])) ha rfl ⟨us ++ [v], upd_same, ru.append (.cons r6 .nil)⟩) q6⟩
  · rintro H2 ⟨F', S', e, x', q'⟩
    rw [List.drop_length] at q'
    obtain ⟨acc, ha, q2⟩ := q'.2
    cases mu with
    | true =>
      rw [if_pos rfl] at q2
      exact k _ H2 _ ρ1 S' F' (e1.trans e) (m1.step e x') (.ref p) q2
    | false =>
      rw [if_neg Bool.false_ne_true] at q2
      obtain ⟨us, hu, ru, xf⟩ := x'.freeze ha
      have fp' := (x'.st p _ ha).1
      have e2 : ExF F' (upd F' p (.lst us)) := ExF.new fp'
      exact k _ H2 _ ρ1 _ _ ((e1.trans e).trans e2) (m1.step (e.trans e2) xf) (.lst (.inl upd_same) (ru.up e2)) q2
theorem de_lc (mu : Bool) {elt tg iter : Expr} {ifs : List Expr} {scope : Scope} {ti : TI} {wi : WI} {g : TG} {wg : WG} {tt : TT} {wt : WT} {te : TE} {we : WE} (own : List (Str × Nat)) (hc : X.calm = true) (hN : X.N.Nodup) (hi : DI X L tg iter ti wi) (ok : BlkOk X.N X.env.scope scope own)
    (hg : ∀ (s : Shared) (H : Hp) (C : Addr) (cl : List (Str × Addr)) (fp : List Addr), DG (X.blk s H scope (compEnvC scope cl C X.env) fp) L (own.map (·.2)) tg g wg) (ht : ∀ (s : Shared) (H : Hp) (C : Addr) (cl : List (Str × Addr)) (fp : List Addr), DTs (X.blk s H scope (compEnvC scope cl C X.env) fp) L ifs tt wt)
    (he : ∀ (s : Shared) (H : Hp) (C : Addr) (cl : List (Str × Addr)) (fp : List Addr), DE (X.blk s H scope (compEnvC scope cl C X.env) fp) L elt te we) (hs : ∀ x, foldedSetIterable iter X.env x = pure x := by intro _; rfl) :
    DE X L (.ListComp elt [⟨tg, iter, ifs, 0⟩] scope pos) (tLc ti g tt te (own.map (·.2))) (wLc mu (own.map (·.2)) wi wg wt we) :=
  ⟨pe_lc hc hN hi.pi ok (fun s H C cl fp => (hg s H C cl fp).pg) (fun s H C cl fp => (ht s H C cl fp).pts) (fun s H C cl fp => (he s H C cl fp).pe) hs,
    re_lc hi.ri (hg X.s_0 X.H_0 0 [] []).rg (ht X.s_0 X.H_0 0 [] []).rt (he X.s_0 X.H_0 0 [] []).re⟩
end
end DL
/-! DLG: calls where it is known that no repr is under way. -/
namespace DL
open PySem PySem.Spec PyProof.Rows L2
structure RoomG (k : Nat) (A : Around) : Prop where
  r : Room k A
  g : A.guards = some []
theorem RoomG.mono {j k : Nat} {A : Around} (h : RoomG k A) (l : j ≤ k) : RoomG j A := ⟨h.r.mono l, h.g⟩
theorem RoomG.units {k : Nat} {A : Around} (h : RoomG k A) : A.units + 64 < cLine := h.r.units
theorem RoomG.units65 {k : Nat} {A : Around} (h : RoomG k A) : A.units + 65 < cLine := by have := h.r.un; omega
structure FnG (P : Program) (w : World) (K : PySem.W.Frag) (mg : Str → Option Value) (base : Heap) (CX : CXT) (k : Nat) (f : Addr) (fd : FuncData) (ps : List Str) (sp : Sp) : Prop where
  len : ∀ vs H Q E, sp vs H Q E → vs.length = ps.length
  run : ∀ (A : Around) (outer : List Env) (s : Shared) (H : Hp) (args : Args) (us : List Value) (vs : List V) (Q : VK) (E : XK), Room k A → A.guards = some [] → Env0 P w K mg base A outer s H → BindsTo s fd args (ps.zip us) → Vals vs us → sp vs H Q E →
    codeAny (model P w) A (.call (.ref f) args) (CR CX outer P w H s Q E) s
theorem FnG.imp {P : Program} {w : World} {K : PySem.W.Frag} {mg : Str → Option Value} {base : Heap} {CX : CXT} {k : Nat} {f : Addr} {fd : FuncData} {ps : List Str} {sp sp' : Sp} (F : FnG P w K mg base CX k f fd ps sp)
    (h : ∀ vs H Q E, sp' vs H Q E → sp vs H Q E) : FnG P w K mg base CX k f fd ps sp' :=
  ⟨fun vs H Q E q => F.len vs H Q E (h _ _ _ _ q), fun A outer s H args us vs Q E hr hG he hb hv hs => F.run A outer s H args us vs Q E hr hG he hb hv (h _ _ _ _ hs)⟩
section
variable {X : Cx} {CX : CXT} {k : Nat} {f C : Addr} {fd : FuncData} {ps : List Str} {sp : Sp} {ds : List Value} {dvs : List V} {E : XK} {x m : Str} {p pos apos : Pos} {e o : Expr} {es : List Expr} {te ta : TE} {t : TA}
theorem run_fnG {pins : List (Addr × Obj)} {σ : L2.St} {H : Hp} {s : Shared} {Q : VK} {us : List Value} {vs : List V} (F : FnG X.prog X.w X.K X.mg X.base CX k f fd ps sp) (hr : Room k X.A) (hG : X.A.guards = some []) (hb : Binds X.K fd ps ds) (hd : Vals dvs ds) (hx : Passes CX X E)
    (I : Inv X pins σ H s) (r : Vals vs us) (h : sp (vs ++ dvs) H Q E) : wpAny (model X.prog X.w) X.A (call (.ref f) us) (EP X pins σ Q) X.xe s := by
  have r2 : Vals (vs ++ dvs) (us ++ ds) := r.append hd
  have hl : (us ++ ds).length = ps.length := by rw [← r2.length]; exact F.len _ _ _ _ h
  refine wpAny_call (codeAny_mono (F.run X.A X.stack s H ⟨us, []⟩ (us ++ ds) (vs ++ dvs) Q E hr hG I.env0 (hb s us I.kIn hl) r2 h) fun r s' hq => ?_)
  cases r with
  | error e => exact hx pins σ H s e s' I hq
  | ok fl =>
    cases fl with
    | ret u => exact I.after hq
    | next => exact False.elim hq
    | brk => exact False.elim hq
    | cont => exact False.elim hq
theorem pe_callG (F : FnG X.prog X.w X.K X.mg X.base CX k f fd ps sp) (hr : Room k X.A) (hG : X.A.guards = some []) (hg : Gl X x) (hm : X.mg x = some (.ref f)) (hk : PySem.W.keepIn X.K (.ref f) = true) (hb : Binds X.K fd ps ds) (hd : Vals dvs ds) (hx : Passes CX X E)
    (ha : PA X (e :: es) t) (hdb : (x == ("__debug__" : Str)) = false := by decide) (he : starEach (e :: es) X.env = (false, eval e X.env) :: starEach es X.env := by rfl) (hpl : (backTo pos (starEach es X.env)).any (·.1) = false := by rfl) :
    PE X (.Call (.Name x p) (e :: es) [] pos) (tCall sp dvs E t) := by
  refine ⟨fun pins s σ H Q I h => ?_⟩
  refine wpAny_Call_Name_kw (ld_glob I hg hm ?_ hdb)
  refine PySem.W.callWith_K (h₀ := X.base) I.ok.mod.kin hk (thn (ha.run pos pins s σ H _ I h) fun us s1 ⟨vs, H1, I1, r, q⟩ => ⟨I1.kIn, ?_⟩) he hpl
  exact run_fnG F hr hG hb hd hx I1 r q
theorem pe_call0G (F : FnG X.prog X.w X.K X.mg X.base CX k f fd ps sp) (hr : Room k X.A) (hG : X.A.guards = some []) (hg : Gl X x) (hm : X.mg x = some (.ref f)) (hk : PySem.W.keepIn X.K (.ref f) = true) (hb : Binds X.K fd ps ds) (hd : Vals dvs ds) (hx : Passes CX X E)
    (hdb : (x == ("__debug__" : Str)) = false := by decide) : PE X (.Call (.Name x p) [] [] pos) (tCall sp dvs E tNil) := by
  refine ⟨fun pins s σ H Q I h => ?_⟩
  refine wpAny_Call_Name_kw (ld_glob I hg hm ?_ hdb)
  exact PySem.W.callWith_K0 I.kIn hk (run_fnG (us := []) F hr hG hb hd hx I .nil h)
theorem pe_methG {pl : Sem Bool} (he : PE X o ta) (c : Cls X.K C) (hm : Meth X.K C m f) (F : FnG X.prog X.w X.K X.mg X.base CX k f fd ps sp) (hr : Room k X.A) (hG : X.A.guards = some []) (hb : Binds X.K fd ps ds) (hd : Vals dvs ds) (hx : Passes CX X E) (ha : PA X (e :: es) t)
    (hst : starEach (e :: es) X.env = (false, eval e X.env) :: starEach es X.env := by rfl) (hpl : (backTo pos (starEach es X.env)).any (·.1) = false := by rfl)
    (ht : eval (.Call (.Attribute o m apos) (e :: es) [] pos) X.env = (do
      let ov ← eval o X.env
      standAt apos.atName
      let (f, first) ← holding [ov] (getMethod ov m pl)
      callWith pos f first (backTo pos (starEach (e :: es) X.env)) (backToKw pos (keywordEach [] X.env))) := by rfl) :
    PE X (.Call (.Attribute o m apos) (e :: es) [] pos) (tMeth C m sp dvs E ta t) := by
  refine ⟨fun pins s σ H Q I h => ?_⟩
  refine PySem.W.methodCall_KW (pl := pl) (thn (he.run pins s σ H _ I h) fun u s1 ⟨x, H1, I1, rx, a, dx, fs, ex, ea, l, q⟩ => ?_) ht
  subst ex
  obtain rfl : u = Value.ref a := rx
  refine getmeth_ok I1 ea c hm l ?_
  refine PySem.W.callWith_K (first := [.ref a]) (h₀ := X.base) I.ok.mod.kin hm.kp (thn (ha.run pos pins s1 σ H1 _ I1 q) fun us s2 ⟨vs, H2, I2, r, q2⟩ => ⟨I2.kIn, ?_⟩) hst hpl
  exact run_fnG (us := .ref a :: us) (vs := .ref a :: vs) F hr hG hb hd hx I2 (.cons rfl r) q2
theorem pe_meth0G {pl : Sem Bool} (he : PE X o ta) (c : Cls X.K C) (hm : Meth X.K C m f) (F : FnG X.prog X.w X.K X.mg X.base CX k f fd ps sp) (hr : Room k X.A) (hG : X.A.guards = some []) (hb : Binds X.K fd ps ds) (hd : Vals dvs ds) (hx : Passes CX X E)
    (ht : eval (.Call (.Attribute o m apos) [] [] pos) X.env = (do
      let ov ← eval o X.env
      standAt apos.atName
      let (f, first) ← holding [ov] (getMethod ov m pl)
      callWith pos f first (backTo pos (starEach [] X.env)) (backToKw pos (keywordEach [] X.env))) := by rfl) :
    PE X (.Call (.Attribute o m apos) [] [] pos) (tMeth C m sp dvs E ta tNil) := by
  refine ⟨fun pins s σ H Q I h => ?_⟩
  refine PySem.W.methodCall_KW (pl := pl) (thn (he.run pins s σ H _ I h) fun u s1 ⟨x, H1, I1, rx, a, dx, fs, ex, ea, l, q⟩ => ?_) ht
  subst ex
  obtain rfl : u = Value.ref a := rx
  refine getmeth_ok I1 ea c hm l ?_
  exact PySem.W.callWith_K0 (first := [.ref a]) I1.kIn hm.kp (run_fnG (us := [.ref a]) (vs := [.ref a]) F hr hG hb hd hx I1 (.cons rfl .nil) q)
theorem guards_make {A : Around} (h : A.guards = some []) (C : Addr) (us : List Value) : (A.under (.builtin "type.__call__" ⟨.ref C :: us, []⟩)).guards = some [] := by
  have e : (Code.builtin "type.__call__" ⟨.ref C :: us, []⟩).guards = [] := by
    have : (Code.builtin "type.__call__" ⟨.ref C :: us, []⟩).isGuard = false := by show guardIds.contains "type.__call__" = false; decide +kernel
    simp [Code.guards, this]
  simp only [Around.under, e, pushGuards, h]
theorem run_makeG {pins : List (Addr × Obj)} {σ : L2.St} {H : Hp} {s : Shared} {Q : VK} {us : List Value} {vs : List V} (M : Mk X.K C f) (F : FnG X.prog X.w X.K X.mg X.base CX k f fd ps sp) (hr : Room (k + 1) X.A) (hG : X.A.guards = some []) (hb : Binds X.K fd ps ds) (hd : Vals dvs ds)
    (hx : Passes CX X E) (I : Inv X pins σ H s) (r : Vals vs us)
    (h : ∀ x dx, H x = none → H dx = none → dx ≠ x → sp (.ref x :: (vs ++ dvs)) (upd (upd H dx (.own x)) x (.ins C dx [])) (fun v H2 => v = .non ∧ Q (.ref x) H2) E) :
    wpAny (model X.prog X.w) X.A (call (.ref C) us) (EP X pins σ Q) X.xe s := by
  have hq := h (s.heap.objs.size + 1) s.heap.objs.size (I.hok.fresh (Nat.le_succ _)) (I.hok.fresh (Nat.le_refl _)) (Nat.ne_of_lt (Nat.lt_succ_self _))
  have I2 := Inv.made (C := C) I
  have r2 : Vals (V.ref (s.heap.objs.size + 1) :: (vs ++ dvs)) (Value.ref (s.heap.objs.size + 1) :: (us ++ ds)) := .cons rfl (r.append hd)
  have hl : (Value.ref (s.heap.objs.size + 1) :: us ++ ds).length = ps.length := by
    have e := r2.length
    rw [F.len _ _ _ _ hq] at e
    exact e.symm
  refine wpAny_call (make_map (f := f) I.kIn M.makes M.init (beq_iff_eq.mp M.fn) (codeAny_mono (F.run _ X.stack _ _ ⟨Value.ref (s.heap.objs.size + 1) :: us, []⟩ (Value.ref (s.heap.objs.size + 1) :: (us ++ ds)) _ _ E (hr.make C us []) (guards_make hG C us)
    (I2.env0.make C us []) (hb _ (Value.ref (s.heap.objs.size + 1) :: us) I2.kIn hl) r2 hq) fun r s' hq' => ?_))
  cases r with
  | error e => exact hx pins σ _ _ e s' I2 hq'
  | ok fl =>
    cases fl with
    | ret u =>
      obtain ⟨v, H', I3, rv, ev, q3⟩ := I2.after hq'
      subst ev
      exact ⟨rv, ⟨V.ref (s.heap.objs.size + 1), H', I3, rfl, q3⟩⟩
    | next => exact False.elim hq'
    | brk => exact False.elim hq'
    | cont => exact False.elim hq'
theorem pe_makeG (M : Mk X.K C f) (F : FnG X.prog X.w X.K X.mg X.base CX k f fd ps sp) (hr : Room (k + 1) X.A) (hG : X.A.guards = some []) (hg : Gl X x) (hm : X.mg x = some (.ref C)) (hb : Binds X.K fd ps ds) (hd : Vals dvs ds) (hx : Passes CX X E)
    (ha : PA X (e :: es) t) (hdb : (x == ("__debug__" : Str)) = false := by decide) (he : starEach (e :: es) X.env = (false, eval e X.env) :: starEach es X.env := by rfl) (hpl : (backTo pos (starEach es X.env)).any (·.1) = false := by rfl) :
    PE X (.Call (.Name x p) (e :: es) [] pos) (tMake C sp dvs E t) := by
  refine ⟨fun pins s σ H Q I h => ?_⟩
  refine wpAny_Call_Name_kw (ld_glob I hg hm ?_ hdb)
  refine PySem.W.callWith_K (h₀ := X.base) I.ok.mod.kin M.kp (thn (ha.run pos pins s σ H _ I h) fun us s1 ⟨vs, H1, I1, r, q⟩ => ⟨I1.kIn, ?_⟩) he hpl
  exact run_makeG M F hr hG hb hd hx I1 r q
theorem pe_make0G (M : Mk X.K C f) (F : FnG X.prog X.w X.K X.mg X.base CX k f fd ps sp) (hr : Room (k + 1) X.A) (hG : X.A.guards = some []) (hg : Gl X x) (hm : X.mg x = some (.ref C)) (hb : Binds X.K fd ps ds) (hd : Vals dvs ds) (hx : Passes CX X E)
    (hdb : (x == ("__debug__" : Str)) = false := by decide) : PE X (.Call (.Name x p) [] [] pos) (tMake C sp dvs E tNil) := by
  refine ⟨fun pins s σ H Q I h => ?_⟩
  refine wpAny_Call_Name_kw (ld_glob I hg hm ?_ hdb)
  exact PySem.W.callWith_K0 I.kIn M.kp (run_makeG (us := []) M F hr hG hb hd hx I .nil h)
end
theorem fn_ofG {CX : CXT} {P : Program} {w : World} {K : PySem.W.Frag} {mg : Str → Option Value} {base : Heap} {k : Nat} {f : Addr} {name qual : Str} {params : Arguments} {body : List Stmt} {scope : Scope} {dV kV doc pm cdv ct oc : Value} {an od : Option Addr}
    {osl : Array (Option Value)} {N ps : List Str} {sp : Sp} (lk : K.lookup f = some ⟨oc, od, .func (PySem.W.fnOf name qual params body scope dV kV doc pm an cdv ct), osl⟩) (hcd : PySem.W.codeIn K cdv qual = true) (S : FnScope N ps scope)
    (len : ∀ vs H Q E, sp vs H Q E → vs.length = ps.length)
    (hbody : ∀ (A : Around) (outer : List Env) (s : Shared) (H : Hp) (vs : List V) (Q : VK) (E : XK), Room k (A.deeper (envOfC qual scope s.heap.objs.size f cdv)) → A.guards = some [] → sp vs H Q E →
      ∃ t, PSs (cxOf CX P w K mg base N qual scope f cdv A outer s H E) body t ∧ t { nx := fun _ H' => Q .non H', rt := Q } (start N vs) H) :
    FnG P w K mg base CX (k + 1) f (PySem.W.fnOf name qual params body scope dV kV doc pm an cdv ct) ps sp := by
  refine ⟨len, fun A outer s H args us vs Q E hr hG e0 hb r hsp => ?_⟩
  have hl := len _ _ _ _ hsp
  have KX : K.In s.heap := e0.mod.kin.keeps fun b o e => (e0.bs b o e).1
  have lim : s.heap.NoLimit := e0.mod.nolimit.keeps fun b o e => (e0.bs b o e).1
  have hkind : ∀ y ∈ ps.zip us, scope.names.lookup y.1 = some .local ∨ (scope.names.lookup y.1 = some .cell ∧ ((cellsFrom (s.heap.objs.size + 1) scope.names []).lookup y.1).isSome = true) := fun ⟨n, v⟩ hy => by
    rcases S.par n (List.of_mem_zip hy).1 with q | q
    · exact .inl q
    · exact .inr ⟨q, PySem.W.cellsFrom_some _ _ _ (.inl q)⟩
  refine codeAny_call_function hr.depth (KX _ _ lk) rfl S.co S.gen rfl (PySem.W.codeRec_of KX hcd) (hb _ _ _ _ ?_)
  refine wpAny_newFunctionEnv_cells S.kind hkind fun env he s1 x => ?_
  subst he
  refine ⟨lim.keeps x.toInCall.keep, codeAny_func ?_⟩
  obtain ⟨t, ht, hq⟩ := hbody A outer s H vs Q E (hr.deeper _) hG hsp
  have I : Inv (cxOf CX P w K mg base N qual scope f cdv A outer s H E) [] (start N vs) H s1 := inv_start S hr.hd e0 hl r x
  refine wpAny_mono (ht.run [] s1 (start N vs) H _ I hq) (fun fl s' hs => ?_) fun e s' hs => hs
  have fin : ∀ {σ' : L2.St} {H' : Hp} {v : V} {u : Value}, Inv (cxOf CX P w K mg base N qual scope f cdv A outer s H E) [] σ' H' s' → RelV v u → Q v H' → CE outer P w H s Q u s' :=
    fun {σ' H' v u} J rv q => ⟨v, H', J.os, J.bare, J.base, J.hok, rv, q⟩
  cases fl with
  | ret u =>
    obtain ⟨v, σ', H', J, rv, q⟩ := hs
    exact fin J rv q
  | next =>
    obtain ⟨σ', H', J, q⟩ := hs
    exact fin (v := V.non) (u := Value.none) J rfl q
  | brk =>
    obtain ⟨_, _, _, q⟩ := hs
    exact False.elim q
  | cont =>
    obtain ⟨_, _, _, q⟩ := hs
    exact False.elim q
section
variable {P : Program} {w : World} {K : PySem.W.Frag} {mg : Str → Option Value} {base : Heap} {x qual : Str} {params : Arguments} {body : List Stmt} {scope : Scope} {dvs : List V} {kws : List (Str × V)} {f : Addr} {fd : FuncData}
theorem okG {CX : CXT} {N ps : List Str} {k : Nat} {sp : Sp} (F : FunD K x qual params body scope dvs kws f fd) (S : FnScope N ps scope) (len : ∀ vs H Q E, sp vs H Q E → vs.length = ps.length)
    (hbody : ∀ (cdv : Value) (A : Around) (outer : List Env) (s : Shared) (H : Hp) (vs : List V) (Q : VK) (E : XK), Room k (A.deeper (envOfC qual scope s.heap.objs.size f cdv)) → A.guards = some [] → sp vs H Q E →
      ∃ t, PSs (cxOf CX P w K mg base N qual scope f cdv A outer s H E) body t ∧ t { nx := fun _ H' => Q .non H', rt := Q } (start N vs) H) : FnG P w K mg base CX (k + 1) f fd ps sp := by
  obtain ⟨oc, od, dV, kV, doc, pm, an, cdv, ct, osl, rfl, lk, hcd, _, _⟩ := F.ex
  exact fn_ofG lk hcd S len fun A outer s H vs Q E hr hG hsp => hbody cdv A outer s H vs Q E hr hG hsp
end
theorem law_callG {P : Program} {w : World} {K : PySem.W.Frag} {mg mb : Str → Option Value} {CX : CXT} {k : Nat} {fa a : Addr} {fd : FuncData} {x : Str} {sp : Sp} {s₁ : Shared} {vs : List Value} {ns : List Int}
    (KX : K.In s₁.heap) (hns : s₁.heap.Ns mainGlobals mg) (hb : s₁.heap.Ns builtinsNs mb) (hbb : ∀ x : Str, x ≠ "__name__" → mb x = bootBuiltins x) (hlim : s₁.heap.NoLimit) (hg : s₁.gens = #[])
    (ha : s₁.heap.get? a = some { cls := .type "list", data := .seq vs.toArray }) (hi : IntsAre vs ns) (hl : ns.length ≤ sizeLine) (hr : Room k callerA)
    (F : ∀ base : Heap, K.In base → base.Ns mainGlobals mg → FnG P w K mg base CX k fa fd [x] sp) (hbind : ∀ (s : Shared) (u : Value), BindsTo s fd ⟨[u], []⟩ [(x, u)])
    (hsp : ∀ H : Hp, Only H → SqL K H a (ns.map V.int) → sp [.ref a] H (fun v _ => v = .bl true) fun _ _ _ => False)
    (hCX : ∀ H e s', CX [] H s₁ (fun _ _ _ => False) e s' → False) :
    codeAny (model P w) callerA (.call (.ref fa) ⟨[.ref a], []⟩) (fun r s' => r = .ok (.ret (.bool true)) ∧ OldK s₁.heap s'.heap ∧ s'.os = s₁.os ∧ AllBare s'.gens) s₁ := by
  have rv := vals_ints hi
  have lenV := hi.length
  -- from an abstract heap in which nothing but the script may be tracked
  have core : ∀ H : Hp, Only H → SqL K H a (ns.map V.int) → HOk P w H s₁.heap → (∀ b, H b ≠ none → b = a) → (H a ≠ none → K.lookup a = none) →
      codeAny (model P w) callerA (.call (.ref fa) ⟨[.ref a], []⟩) (fun r s' => r = .ok (.ret (.bool true)) ∧ OldK s₁.heap s'.heap ∧ s'.os = s₁.os ∧ AllBare s'.gens) s₁ := by
    intro H hO hS hok hA hK
    have base_of : ∀ {b : Addr} {o : Obj}, s₁.heap.get? b = some o → H b = none → (hidT s₁.heap H).get? b = some o := fun e n => hidT_get e n
    have noA : ∀ {b : Addr} {o : Obj} {es : Array DictEntry} {ep : Nat}, s₁.heap.get? b = some o → o.data = .dict es ep → H b = none := fun {b o es ep} e d => by
      cases q : H b with
      | none => rfl
      | some u =>
        have e' : b = a := hA b (by rw [q]; simp)
        subst e'
        rw [ha] at e; cases e
        have d' : Data.seq vs.toArray _ = Data.dict es ep := d
        cases d'
    have nsK : ∀ {b : Addr} {m : Str → Option Value}, s₁.heap.Ns b m → (hidT s₁.heap H).Ns b m := fun {b m} ⟨o, es, ep, e, d, r⟩ => ⟨o, es, ep, base_of e (noA e d), d, r⟩
    have hKb : K.In (hidT s₁.heap H) := fun b o e => base_of (KX b o e) (by
      cases q : H b with
      | none => rfl
      | some u =>
        have e' : b = a := hA b (by rw [q]; simp)
        subst e'
        rw [hK (by rw [q]; simp)] at e; cases e)
    have hM : Mod K mg (hidT s₁.heap H) := ⟨hKb, nsK hns, ⟨mb, nsK hb, hbb⟩, let ⟨mc, h1, h2⟩ := hlim; ⟨mc, nsK h1, h2⟩⟩
    have e0 : Env0 P w K mg (hidT s₁.heap H) callerA [] s₁ H := ⟨rfl, hM, fun b o e => of_hidT e, Nat.le_of_eq (hidT_size _ _), trivial, fun b hb => absurd (show b ∈ ([] : List Addr) from hb) (by simp), hok, .of_eq hg⟩
    refine codeAny_mono ((F _ hKb (nsK hns)).run callerA [] s₁ H ⟨[.ref a], []⟩ [.ref a] [.ref a] _ _ hr rfl e0 (hbind s₁ (.ref a)) (.cons rfl .nil) (hsp H hO hS)) fun r s' h => ?_
    cases r with
    | error e => exact (hCX H e s' h).elim
    | ok fl =>
      cases fl with
      | next => exact False.elim h
      | brk => exact False.elim h
      | cont => exact False.elim h
      | ret u =>
        obtain ⟨v, H', os, bare, un, hok', r', q⟩ := h
        have q' : v = .bl true := q
        subst q'
        obtain rfl : u = Value.bool true := r'
        refine ⟨rfl, OldK.of_keep fun b o e => ?_, os, bare⟩
        cases q : H b with
        | none => exact un.keep b o e q (by intro z; exact absurd (show b ∈ ([] : List Addr) from z) (by simp)) (by simp)
        | some u =>
          rcases hO b with z | ⟨ob, xs, z⟩
          · rw [q] at z; cases z
          · have z2 := un.frzs b ob _ z
            obtain ⟨e1, _⟩ := hok b _ z
            obtain ⟨e2, _⟩ := hok' b _ z2
            rw [e] at e1; cases e1
            exact e2
  cases hk : K.lookup a with
  | some o =>
    -- the script is one of the module's own objects
    have e := KX a o hk
    rw [ha] at e
    cases e
    refine core (fun _ => none) (fun _ => .inl rfl) (.inr ⟨_, vs.toArray, _, hk, rfl, rfl, rfl, by rw [List.size_toArray, lenV]; exact hl, by simpa using rv⟩) (fun b u z => by have z' : (none : Option HO) = some u := z; cases z') (fun b z => absurd rfl z) fun z => absurd rfl z
  | none =>
    refine core (fun b => if b = a then some (.frz { cls := .type "list", data := .seq vs.toArray } (.lst (ns.map V.int))) else none) (fun b => ?_) (.inl (.inr ⟨{ cls := .type "list", data := .seq vs.toArray }, if_pos rfl⟩)) (fun b u z => ?_) (fun b z => ?_) fun _ => hk
    · by_cases hb : b = a
      · exact .inr ⟨_, _, if_pos hb⟩
      · exact .inl (if_neg hb)
    · by_cases hb : b = a
      · have z' := (if_pos hb).symm.trans z
        cases z'
        subst hb
        exact ⟨ha, by rw [List.length_map]; exact hl, vs, _, rv, ha⟩
      · have z' := (if_neg hb).symm.trans z
        cases z'
    · by_cases hb : b = a
      · exact hb
      · exact absurd (if_neg hb) z
theorem walk_ofG {l : PySem.W.OpenLaw} {n k : Nat} {q : Program} {loose : List Str} {XP : (Str → Option Value) → Heap → Prop} {YP : World → Heap → Prop} {d : DefRec} {CX : CXT} {x : Str}
    (hn : l.most = some n) (hn2 : n ≤ sizeLine) (hdf : d.params.defaults = []) (hr : Room k callerA)
    (F : ∀ (w : World) (mg : Str → Option Value) (fa : Addr) (h : Heap), YP w h → h.Ns mainGlobals mg → mg d.name = some (.ref fa) →
      ∃ (K : PySem.W.Frag) (fd : FuncData) (sp : Sp), K.In h ∧ (∀ (s : Shared) (u : Value), BindsTo s fd ⟨[u], []⟩ [(x, u)]) ∧
        (∀ (H : Hp) (a : Addr) (ns : List Int), ns.length ≤ n → Only H → SqL K H a (ns.map V.int) → sp [.ref a] H (fun v _ => v = .bl true) fun _ _ _ => False) ∧
        ∀ base : Heap, K.In base → base.Ns mainGlobals mg → FnG l.prog w K mg base CX k fa fd [x] sp)
    (hCX : ∀ (H : Hp) (s : Shared) (e : Value) (s' : Shared), CX [] H s (fun _ _ _ => False) e s' → False) :
    PySem.W.WalkO q loose XP YP l.row.toRowW d [] (fun f vs => PySem.call f vs) := by
  refine Att.attach_call hn hdf fun w s₀ s₁ mg mb fa o pm cd doc a vs ns G Y ho hd hcd hmg hobj hints hlen hg => ?_
  obtain ⟨K, fd, sp, KX, hb, hsp, hF⟩ := F w mg fa _ Y G.T.g hmg
  exact law_callG KX G.T.g G.T.b G.T.builtins G.T.nolimit hg hobj hints (Nat.le_trans hlen hn2) hr hF hb (fun H hO hS => hsp H a ns hlen hO hS) fun H e s' => hCX H s₁ e s'
end DL
/-! DL4: what a def promises over data; calls. -/
namespace DL
open PySem PySem.Spec PyProof.Rows L2
abbrev DSp := List D → MS → KV2 → DXC → Prop
def noX : DXC := fun _ _ _ => False
def spD (K : PySem.W.Frag) (sp : DSp) : Sp := fun vs H Q E => ∃ ds F S Qd Ed, FS K F S H ∧ Reps K F ds vs ∧ sp ds S Qd Ed ∧
  (∀ v H' d F' S', ExF F F' → FS K F' S' H' → Rep K F' d v → Qd d S' → Q v H') ∧
  ∀ e dd H' C xs F' S', ExF F F' → FS K F' S' H' → ExRep K F' H' e dd C xs → Ed C xs S' → E e dd H'
def startR (N : List Str) (ds : List D) : Rho := ds.map some ++ List.replicate (N.length - ds.length) none
theorem start_reps {K : PySem.W.Frag} {F : Hp} {N : List Str} {ds : List D} {vs : List V} (r : Reps K F ds vs) (i : Nat) (d : D) (h : (startR N ds)[i]? = some (some d)) : ∃ v, (L2.start N vs)[i]? = some (some v) ∧ Rep K F d v := by
  unfold startR at h
  unfold L2.start
  by_cases hi : i < ds.length
  · rw [List.getElem?_append_left (by simpa using hi), List.getElem?_map] at h
    cases e : ds[i]? with
    | none => rw [e] at h; cases h
    | some d' =>
      rw [e] at h
      cases h
      obtain ⟨v, hv, rv⟩ := r.get e
      refine ⟨v, ?_, rv⟩
      rw [List.getElem?_append_left (by rw [List.length_map, ← r.length]; exact hi), List.getElem?_map, hv]
      rfl
  · rw [List.getElem?_append_right (by simpa using hi), List.getElem?_replicate] at h
    split at h <;> cases h
/-- behind the end: what is made on the way may be forgotten -/
def outK (Q : KV2) : KV2 := fun d S' => ∃ S1, Sub S1 S' ∧ Q d S1
def endD (Q : KV2) : DEnds := { nx := fun _ S' => outK Q .non S', rt := outK Q }
section
variable {P : Program} {w : World} {K : PySem.W.Frag} {mg : Str → Option Value} {base : Heap}
theorem mt_start {F : Hp} {S : MS} {H : Hp} {N : List Str} {ds : List D} {vs : List V} {L : Lk} (x : FS K F S H) (r : Reps K F ds vs)
    (lk : ∀ (F' : Hp) (S' : MS) (H' : Hp) (e : Value) (d : Option Addr) (C : Str) (xs : List D), ExF F F' → FS K F' S' H' → ExRep K F' H' e d C xs → L.ex C xs S' → L.E e d H') : Mt K L F (startR N ds) S (L2.start N vs) H :=
  ⟨x, start_reps r, by
    unfold L2.start startR
    simp [r.length], lk⟩
abbrev L0 : Lk := ⟨E0, noX⟩
/-- THE RULE for a def from which nothing is let out -/
theorem fn_d {x qual : Str} {params : Arguments} {body : List Stmt} {scope : Scope} {f : Addr} {fd : FuncData} {N ps : List Str} {k : Nat} {sp : DSp} (Fu : FunD K x qual params body scope [] [] f fd) (S : FnScope N ps scope) (ar : ∀ ds S Q E, sp ds S Q E → ds.length = ps.length)
    (hbody : ∀ (cdv : Value) (A : Around) (outer : List Env) (s : Shared) (H : Hp) (E : XK), RoomG k (A.deeper (envOfC qual scope s.heap.objs.size f cdv)) →
      ∃ t w', DB (cxOf CX0 P w K mg base N qual scope f cdv A outer s H E).nox L0 body t w' ∧ ∀ ds S Q Ed, sp ds S Q Ed → w' (endD Q) (startR N ds) S) : FnG P w K mg base CX0 (k + 1) f fd ps (spD K sp) := by
  refine okG Fu S (fun vs H Q E h => ?_) (fun cdv A outer s H vs Q E hr hG h => ?_)
  · obtain ⟨ds, F, S', Qd, Ed, _, r, h, _⟩ := h
    rw [← r.length]
    exact ar _ _ _ _ h
  · obtain ⟨ds, F, S', Qd, Ed, x0, r, h, kq, ke⟩ := h
    obtain ⟨t, w', hd, hw⟩ := hbody cdv A outer s H E ⟨hr, hG⟩
    refine ⟨t, hd.ps.nox, hd.rs F _ S' _ H _ _ (mt_start x0 r fun _ _ _ _ _ _ _ _ _ _ z => z.elim) (hw ds S' Qd Ed h) ⟨fun F' ρ' S2 σ' H' e m q => ?_, fun F' S2 H' v d e x' rv q => ?_, fun _ _ _ _ _ _ _ z => z.elim, fun _ _ _ _ _ _ _ z => z.elim⟩⟩
    · obtain ⟨S1, s1, q⟩ := q
      exact kq .non H' .non F' S1 e (m.fs.sub s1) .non q
    · obtain ⟨S1, s1, q⟩ := q
      exact kq v H' d F' S1 e (x'.sub s1) rv q
/-- .. that may raise -/
theorem fn_dx {x qual : Str} {params : Arguments} {body : List Stmt} {scope : Scope} {f : Addr} {fd : FuncData} {N ps : List Str} {k : Nat} {sp : DSp} (Fu : FunD K x qual params body scope [] [] f fd) (S : FnScope N ps scope) (ar : ∀ ds S Q E, sp ds S Q E → ds.length = ps.length)
    (hbody : ∀ (cdv : Value) (A : Around) (outer : List Env) (s : Shared) (H : Hp) (E : XK) (Ed : DXC), RoomG k (A.deeper (envOfC qual scope s.heap.objs.size f cdv)) →
      ∃ t w', DB (cxOf (L2.CX P w) P w K mg base N qual scope f cdv A outer s H E) ⟨E, Ed⟩ body t w' ∧ ∀ ds S Q, sp ds S Q Ed → w' (endD Q) (startR N ds) S) : FnG P w K mg base (L2.CX P w) (k + 1) f fd ps (spD K sp) := by
  refine okG Fu S (fun vs H Q E h => ?_) (fun cdv A outer s H vs Q E hr hG h => ?_)
  · obtain ⟨ds, F, S', Qd, Ed, _, r, h, _⟩ := h
    rw [← r.length]
    exact ar _ _ _ _ h
  · obtain ⟨ds, F, S', Qd, Ed, x0, r, h, kq, ke⟩ := h
    obtain ⟨t, w', hd, hw⟩ := hbody cdv A outer s H E Ed ⟨hr, hG⟩
    refine ⟨t, hd.ps, hd.rs F _ S' _ H _ _ (mt_start x0 r fun F' S2 H' e d C xs ex x2 er q => ke e d H' C xs F' S2 ex x2 er q) (hw ds S' Qd h) ⟨fun F' ρ' S2 σ' H' e m q => ?_, fun F' S2 H' v d e x' rv q => ?_, fun _ _ _ _ _ _ _ z => z.elim, fun _ _ _ _ _ _ _ z => z.elim⟩⟩
    · obtain ⟨S1, s1, q⟩ := q
      exact kq .non H' .non F' S1 e (m.fs.sub s1) .non q
    · obtain ⟨S1, s1, q⟩ := q
      exact kq v H' d F' S1 e (x'.sub s1) rv q
end
/-- what a def is to whoever calls it: over every context of this program -/
structure Def (P : Program) (w : World) (K : PySem.W.Frag) (mg : Str → Option Value) (base : Heap) (CX : CXT) (k : Nat) (x : Str) (ps : List Str) (sp : DSp) : Prop where
  ex : ∃ f fd, FnG P w K mg base CX k f fd ps (spD K sp) ∧ mg x = some (.ref f) ∧ PySem.W.keepIn K (.ref f) = true ∧ Binds K fd ps []
/-! ### calls -/
section
variable {X : Cx} {L : Lk} {CX : CXT} {k : Nat} {f : Addr} {fd : FuncData} {ps : List Str} {sp : DSp} {E : XK} {x : Str} {p pos : Pos} {e : Expr} {es : List Expr} {t : TA} {wa : WA} {K : PySem.W.Frag}
/-- a call that raises nothing -/
def wCall (sp : DSp) (wa : WA) : WE := fun ρ S Q => wa ρ S fun ds ρ1 S1 => sp ds S1 (fun d S2 => Q d ρ1 S2) noX
theorem re_call (h : RA K L t wa) : RE K L (tCall (spD K sp) [] E t) (wCall sp wa) := by
  intro F ρ S σ H Q R m q k
  refine h F ρ S σ H _ _ m q fun vs H1 ds ρ1 S1 F1 e1 m1 r1 q1 => ?_
  show spD K sp (vs ++ []) H1 R E
  rw [List.append_nil]
  exact ⟨ds, F1, S1, _, _, m1.fs, r1, q1, fun v H' d F' S' e x r q => k v H' d ρ1 S' F' (e1.trans e) (m1.step e x) r q, fun _ _ _ _ _ _ _ _ _ _ z => z.elim⟩
/-- a call whose errors leave this def, too -/
def wCallX (L : Lk) (sp : DSp) (wa : WA) : WE := fun ρ S Q => wa ρ S fun ds ρ1 S1 => sp ds S1 (fun d S2 => Q d ρ1 S2) L.ex
theorem re_callX (h : RA K L t wa) : RE K L (tCall (spD K sp) [] L.E t) (wCallX L sp wa) := by
  intro F ρ S σ H Q R m q k
  refine h F ρ S σ H _ _ m q fun vs H1 ds ρ1 S1 F1 e1 m1 r1 q1 => ?_
  show spD K sp (vs ++ []) H1 R L.E
  rw [List.append_nil]
  exact ⟨ds, F1, S1, _, _, m1.fs, r1, q1, fun v H' d F' S' e x r q => k v H' d ρ1 S' F' (e1.trans e) (m1.step e x) r q, fun e dd H' C xs F' S' ex x er q => m1.lk F' S' H' e dd C xs ex x er q⟩
theorem de_call (C : Def X.prog X.w X.K X.mg X.base CX k x ps sp) (hr : RoomG k X.A) (hx : Passes CX X E0) (hg : Gl X x) (ha : DA X L (e :: es) t wa) (hdb : (x == ("__debug__" : Str)) = false := by decide) (he : starEach (e :: es) X.env = (false, eval e X.env) :: starEach es X.env := by rfl) (hpl : (backTo pos (starEach es X.env)).any (·.1) = false := by rfl) :
    DE X L (.Call (.Name x p) (e :: es) [] pos) (tCall (spD X.K sp) [] E0 t) (wCall sp wa) := by
  obtain ⟨f, fd, F, hm, hk, hb⟩ := C.ex
  exact ⟨pe_callG F hr.r hr.g hg hm hk hb .nil hx ha.pa hdb he hpl, re_call ha.ra⟩
theorem de_call0 (C : Def X.prog X.w X.K X.mg X.base CX k x ps sp) (hr : RoomG k X.A) (hx : Passes CX X E0) (hg : Gl X x) (hdb : (x == ("__debug__" : Str)) = false := by decide) :
    DE X L (.Call (.Name x p) [] [] pos) (tCall (spD X.K sp) [] E0 tNil) (wCall sp wNil) := by
  obtain ⟨f, fd, F, hm, hk, hb⟩ := C.ex
  exact ⟨pe_call0G F hr.r hr.g hg hm hk hb .nil hx hdb, re_call ra_nil⟩
theorem de_callX (C : Def X.prog X.w X.K X.mg X.base CX k x ps sp) (hr : RoomG k X.A) (hx : Passes CX X L.E) (hg : Gl X x) (ha : DA X L (e :: es) t wa) (hdb : (x == ("__debug__" : Str)) = false := by decide) (he : starEach (e :: es) X.env = (false, eval e X.env) :: starEach es X.env := by rfl) (hpl : (backTo pos (starEach es X.env)).any (·.1) = false := by rfl) :
    DE X L (.Call (.Name x p) (e :: es) [] pos) (tCall (spD X.K sp) [] L.E t) (wCallX L sp wa) := by
  obtain ⟨f, fd, F, hm, hk, hb⟩ := C.ex
  exact ⟨pe_callG F hr.r hr.g hg hm hk hb .nil hx ha.pa hdb he hpl, re_callX ha.ra⟩
end
end DL
/-! DL5: operations on data. -/
namespace DL
open PySem PySem.Spec PyProof.Rows L2
/-! ### ints -/
section
variable {K : PySem.W.Frag} {X : Cx}
theorem KO.int {F : Hp} {S : MS} {H : Hp} {Q : KV2} {R : VK} {i : Int} (k : KO K F Q R) (x : FS K F S H) (q : Q (.int i) S) : R (.int i) H := k.here x (.int i) q
theorem KO.bl {F : Hp} {S : MS} {H : Hp} {Q : KV2} {R : VK} {i : Bool} (k : KO K F Q R) (x : FS K F S H) (q : Q (.bl i) S) : R (.bl i) H := k.here x (.bl i) q
/-- two ints, under C, an int -/
def wII (C : Int → Int → Prop) (g : Int → Int → Int) : D → D → MS → KV2 → Prop
  | .int i, .int j => fun S Q => C i j ∧ Q (.int (g i j)) S
  | _, _ => fun _ _ => False
def wIB (g : Int → Int → Bool) : D → D → MS → KV2 → Prop
  | .int i, .int j => fun S Q => Q (.bl (g i j)) S
  | _, _ => fun _ _ => False
theorem repT_int {F H : Hp} {i : Int} {v : V} (h : RepT K F H (.int i) v) : v = .int i := by
  have h : Rep K F (.int i) v := h
  cases h
  rfl
theorem repT_bl {F H : Hp} {i : Bool} {v : V} (h : RepT K F H (.bl i) v) : v = .bl i := by
  have h : Rep K F (.bl i) v := h
  cases h
  rfl
theorem repT_str {F H : Hp} {i : Str} {v : V} (h : RepT K F H (.str i) v) : v = .str i := by
  have h : Rep K F (.str i) v := h
  cases h
  rfl
theorem repT_non {F H : Hp} {v : V} (h : RepT K F H .non v) : v = .non := by
  have h : Rep K F .non v := h
  cases h
  rfl
theorem ro_II {C : Int → Int → Prop} {g : Int → Int → Int} : RO2 K (rI C fun i j => .int (g i j)) (wII C g) := by
  intro F S H x y vx vy Q R fs rx ry q k
  cases x <;> cases y <;> first | exact q.elim | skip
  rw [repT_int rx, repT_int ry]
  exact ⟨_, _, rfl, rfl, q.1, k.int fs q.2⟩
theorem ro_IB {g : Int → Int → Bool} : RO2 K (rI0 fun i j => .bl (g i j)) (wIB g) := by
  intro F S H x y vx vy Q R fs rx ry q k
  cases x <;> cases y <;> first | exact q.elim | skip
  rw [repT_int rx, repT_int ry]
  exact ⟨_, _, rfl, rfl, k.bl fs q⟩
theorem ro_I0 {g : Int → Int → Int} : RO2 K (rI0 fun i j => .int (g i j)) (wII (fun _ _ => True) g) := by
  intro F S H x y vx vy Q R fs rx ry q k
  cases x <;> cases y <;> first | exact q.elim | skip
  rw [repT_int rx, repT_int ry]
  exact ⟨_, _, rfl, rfl, k.int fs q.2⟩
abbrev wSub := wII (fun _ _ => True) fun i j => i - j
abbrev wDiv := wII CDiv fun i j => i / j
abbrev wMod := wII (fun _ j => 0 < j) fun i j => i % j
abbrev wPow := wII CPow fun i j => i ^ j.toNat
abbrev wLt := wIB fun i j => decide (i < j)
abbrev wLe := wIB fun i j => decide (i ≤ j)
abbrev wGt := wIB fun i j => decide (j < i)
abbrev wGe := wIB fun i j => decide (j ≤ i)
def wNeg : D → MS → KV2 → Prop
  | .int i => fun S Q => Q (.int (-i)) S
  | _ => fun _ _ => False
theorem ro_neg : RO1 K (rU fun i => .int (-i)) wNeg := by
  intro F S H x vx Q R fs rx q k
  cases x <;> first | exact q.elim | skip
  rw [repT_int rx]
  exact ⟨_, rfl, k.int fs q⟩
/-! ### + and * -/
/-- a list that is read -/
theorem lstR {pins : List (Addr × Obj)} {σ : L2.St} {H : Hp} {s : Shared} {l : Addr} {xs : List V} (I : Inv X pins σ H s) (h : Rd H l (.lst xs)) : xs.length ≤ sizeLine ∧ ∃ (its : List Value) (n : Nat), Vals xs its ∧ xs.length = its.length ∧ s.heap.get? l = some { cls := .type "list", data := .seq its.toArray n } := by
  obtain ⟨z, its, n, r, e⟩ := (h.ok I.hok : ObjOk X.prog X.w H s.heap l (.lst xs))
  exact ⟨z, its, n, r, r.length, e⟩
/-- list + list -/
def rCatS : R2 := fun x y H Q => ∃ l b xs zs, x = .ref l ∧ y = .ref b ∧ Rd H l (.lst xs) ∧ Rd H b (.lst zs) ∧ xs.length + zs.length ≤ sizeLine ∧ ∀ p, H p = none → Q (.ref p) (upd H p (.lst (xs ++ zs)))
theorem op_catS : OpR X (binaryOp .Add) rCatS := by
  intro pins s σ H x y v u Q I rx ry h
  obtain ⟨l, b, xs, zs, rfl, rfl, hH, hB, hz, q⟩ := h
  cases rx
  cases ry
  obtain ⟨z, its, n, r, hl, e⟩ := lstR I hH
  obtain ⟨z2, its2, n2, r2, hl2, e2⟩ := lstR I hB
  refine PySem.P.add_list e e2 ?_ (by rw [List.size_toArray, List.size_toArray]; omega)
  have ea : its.toArray ++ its2.toArray = (its ++ its2).toArray := by simp
  rw [ea]
  exact ⟨.ref _, _, I.lnew (t' := s.toks) (r.append r2) (by rw [List.length_append]; omega), rfl, q _ I.fresh⟩
def wAdd (m : Bool) : D → D → MS → KV2 → Prop
  | .int i, .int j => fun S Q => Q (.int (i + j)) S
  | .str i, .str j => fun S Q => i.length + j.length ≤ sizeLine ∧ Q (.str (i ++ j)) S
  | .tup xs, .tup ys => fun S Q => xs.length + ys.length ≤ sizeLine ∧ Q (.tup (xs ++ ys)) S
  | .lst xs, .lst ys => fun S Q => xs.length + ys.length ≤ sizeLine ∧ newL m (xs ++ ys) S Q
  | _, _ => fun _ _ => False
abbrev rStrA : R2 := fun x y H Q => ∃ i j, x = .str i ∧ y = .str j ∧ i.length + j.length ≤ sizeLine ∧ Q (.str (i ++ j)) H
def rAddA (K : PySem.W.Frag) : R2 := fun x y H Q => (rI0 fun i j => .int (i + j)) x y H Q ∨ rStrA x y H Q ∨ rCatF K x y H Q ∨ rCatS x y H Q
theorem op_addA : OpR X (binaryOp .Add) (rAddA X.K) := OpR.or op_add (OpR.or op_add_str (OpR.or op_catF op_catS))
theorem ro_add (m : Bool) : RO2 K (rAddA K) (wAdd m) := by
  intro F S H x y vx vy Q R fs rx ry q k
  cases x <;> cases y <;> first | exact q.elim | skip
  · rw [repT_int rx, repT_int ry]
    exact .inl ⟨_, _, rfl, rfl, k.int fs q⟩
  · rw [repT_str rx, repT_str ry]
    exact .inr (.inl ⟨_, _, rfl, rfl, q.1, k.here fs (.str _) q.2⟩)
  · rename_i xs ys
    obtain ⟨a, vs, rfl, hx, rr, r1⟩ := rx
    obtain ⟨b, us, rfl, hy, rr2, r2⟩ := ry
    refine .inr (.inr (.inl ⟨a, b, vs, us, rfl, rfl, hx, hy, by rw [← rr.length, ← rr2.length]; exact q.1, fun e => ?_, fun _ e => ?_, fun _ _ p o hp ho => ?_⟩))
    · have ex : xs = [] := rr.nil_iff.mp e
      subst ex
      exact k.here fs r2 q.2
    · have ey : ys = [] := rr2.nil_iff.mp e
      subst ey
      have q2 := q.2
      rw [List.append_nil] at q2
      exact k.here fs r1 q2
    · exact newT_ok k fs (rr.append rr2) q.2 hp ho
  · obtain ⟨a, vs, rfl, hx, rr⟩ := rx
    obtain ⟨b, us, rfl, hy, rr2⟩ := ry
    exact .inr (.inr (.inr ⟨a, b, vs, us, rfl, rfl, hx, hy, by rw [← rr.length, ← rr2.length]; exact q.1, fun p hp => newL_ok k fs (rr.append rr2) q.2 hp⟩))
/-- t * 1 -/
theorem tuple_mul1 (l : Addr) (items : Array Value) (n : Nat) (dd : Option Addr) (sl : Array (Option Value)) (u : Tok) :
    Meets (Builtin.«tuple.__mul__» ⟨[.ref l, .int 1 u], []⟩) (fun _ R s => s.heap.get? l = some { cls := .type "tuple", dict := dd, data := .seq items n, slots := sl } ∧ R (.ok (.ret (Value.ref l))) s) :=
  .of_wp fun prog w A R s h => by
    obtain ⟨hp, g, d, tk, os⟩ := s
    obtain ⟨hl, h⟩ := h
    have f1 := AutoSeq1.idx_int
    wp_walk using wpAny_loadPart' hl
    exact ⟨_, rfl, h⟩
theorem tuple_mul0 (l : Addr) (n : Nat) (k : Int) (dd : Option Addr) (sl : Array (Option Value)) (u : Tok) (c0 : (decide (k < -(2 ^ 63)) || decide (k ≥ 2 ^ 63)) = false) :
    Meets (Builtin.«tuple.__mul__» ⟨[.ref l, .int k u], []⟩) (fun _ R s => s.heap.get? l = some { cls := .type "tuple", dict := dd, data := .seq #[] n, slots := sl } ∧ R (.ok (.ret (Value.ref l))) s) :=
  .of_wp fun prog w A R s h => by
    obtain ⟨hp, g, d, tk, os⟩ := s
    obtain ⟨hl, h⟩ := h
    have f1 := AutoSeq1.idx_int
    wp_walk using wpAny_loadPart' hl
    refine wpAny_ite_false (decide_eq_false (by rw [c0]; exact Bool.false_ne_true)) ?_
    wp_walk using wpAny_loadPart' hl
    exact ⟨_, rfl, h⟩
/-- a tuple times an int -/
def rRepU (K : PySem.W.Frag) : R2 := fun x y H Q => ∃ l k xs, x = .ref l ∧ y = .int k ∧ SqT K H l xs ∧ 1 ≤ k ∧ k ≤ 1000 ∧ xs.length ≤ 1000 ∧ (k = 1 ∨ xs = [] → Q (.ref l) H) ∧ (k ≠ 1 → xs ≠ [] → NewT H (List.replicate k.toNat xs).flatten Q)
theorem op_repU : OpR X (binaryOp .Mult) (rRepU X.K) := by
  intro pins s σ H x y v u Q I rx ry h
  obtain ⟨l, k, xs, rfl, rfl, hT, h1, h2, hz, q0, q1⟩ := h
  by_cases hk : k = 1 ∨ xs = []
  · have q := q0 hk
    cases rx
    obtain ⟨t, rfl⟩ := ry
    obtain ⟨its, r, ⟨⟨cls, dd, data, sl⟩, ho, hc, n, hd⟩, hs⟩ := I.tuple hT
    simp only at hc hd
    subst hc hd
    have go : ∀ (m : Meets (Builtin.«tuple.__mul__» ⟨[.ref l, .int k t], []⟩) (fun _ R s => s.heap.get? l = some { cls := .type "tuple", dict := dd, data := .seq its.toArray n, slots := sl } ∧ R (.ok (.ret (Value.ref l))) s)),
        wpAny (model X.prog X.w) X.A (binaryOp .Mult (.ref l) (.int k t)) (EP X pins σ Q) X.xe s := fun m =>
      wpAny_binaryOp_repeat_ref (T := "tuple") (U := "int") (by decide) ⟨_, ho, rfl⟩ (fun s' => typeIs_int s' k t) noFill_tuple_mul F.fills_int_mul F.slot_int_rmul repeat_tuple F.slot_int_index.lookup
        (call_meets F.slot_int_rmul (typeIs_int s k t) F.entry_int_rmul (F.args_int_rmul_2 _ _) (int_rmul_tuple k t l its.toArray n dd sl)
          ⟨ho, rfl, ⟨_, ho, rfl⟩, call_meets F.slot_tuple_mul ⟨_, ho, rfl⟩ F.entry_tuple_mul (F.args_tuple_mul_2 _ _) m ⟨ho, ⟨.ref l, H, I, rfl, q⟩⟩⟩)
    rcases hk with rfl | e
    · exact go (tuple_mul1 l its.toArray n dd sl t)
    · subst e
      cases r
      exact go (tuple_mul0 l n k dd sl t (by rw [decide_eq_false (by omega), decide_eq_false (by omega)]; rfl))
  · have hk1 : k ≠ 1 := fun e => hk (.inl e)
    have hx1 : xs ≠ [] := fun e => hk (.inr e)
    exact op_repF pins s σ H _ _ v u Q I rx ry ⟨l, k, xs, rfl, rfl, hT, hx1, by omega, h2, hz, q1 hk1 hx1⟩
/-- a list times an int -/
def rRepL : R2 := fun x y H Q => ∃ l k xs, x = .ref l ∧ y = .int k ∧ Rd H l (.lst xs) ∧ -(2 ^ 63) ≤ k ∧ k < 2 ^ 63 ∧ xs.length * k.toNat ≤ sizeLine ∧
  ∀ p, H p = none → Q (.ref p) (upd H p (.lst (List.replicate k.toNat xs).flatten))
theorem op_repL : OpR X (binaryOp .Mult) rRepL := by
  intro pins s σ H x y v u Q I rx ry h
  obtain ⟨l, k, xs, rfl, rfl, hH, h1, h2, hz, q⟩ := h
  cases rx
  obtain ⟨t, rfl⟩ := ry
  obtain ⟨z, its, n, r, hl, e⟩ := lstR I hH
  have hlen : its.toArray.size * k.toNat ≤ sizeLine := by rw [List.size_toArray, ← hl]; exact hz
  have hcap : ¬ its.toArray.size * k.toNat > (2 ^ 63 - 1) / 8 := by
    have : (sizeLine : Nat) ≤ (2 ^ 63 - 1) / 8 := by decide
    omega
  have hfit : ¬ (!Builtin.List.listFitsIndex k) = true := by
    rw [fitsIndex_both h1 h2]
    exact Bool.false_ne_true
  have hlong : ¬ Builtin.List.listTooLong (its.toArray.size * k.toNat) = true := by
    rw [notLongL hlen]
    exact Bool.false_ne_true
  have hnew : List.foldl (fun x1 x2 => x1 ++ x2) #[] (List.replicate (if its.toArray.isEmpty = true then 0 else k.toNat) its.toArray) = (List.replicate k.toNat its).flatten.toArray := by
    have f0 : ∀ m : Nat, List.foldl (fun x1 x2 => x1 ++ x2) #[] (List.replicate m its.toArray) = (List.replicate m its).flatten.toArray := fun m => by
      have := foldl_rep its m []
      rw [List.nil_append] at this
      exact this
    rw [f0]
    cases its with
    | nil => simp
    | cons a r' => rw [if_neg (by simp)]
  refine wpAny_binaryOp_repeat_ref (T := "list") (U := "int") (by decide) ⟨_, e, rfl⟩ (fun s' => typeIs_int s' k t) noFill_list_mul F.fills_int_mul F.slot_int_rmul repeat_list F.slot_int_index.lookup
    (call_meets F.slot_int_rmul (typeIs_int s k t) F.entry_int_rmul (F.args_int_rmul_2 _ _) (int___rmul___int_list k t l its.toArray n)
      ⟨e, rfl, ⟨_, e, rfl⟩, call_meets F.slot_list_mul ⟨_, e, rfl⟩ F.entry_list_mul (F.args_list_mul_2 _ _) (AutoListH.list___mul___list_int_3 l its.toArray n k t hfit hcap hlong) ⟨e, ?_⟩⟩)
  rw [hnew]
  exact ⟨.ref _, _, I.lnew (t' := s.toks) (r.rep k.toNat) (by rw [PyProof.Rows.lm_len_rep_flat, Nat.mul_comm]; exact hz), rfl, q _ I.fresh⟩
def wMul (m : Bool) : D → D → MS → KV2 → Prop
  | .int i, .int j => fun S Q => CMul i j ∧ Q (.int (i * j)) S
  | .tup xs, .int k => fun S Q => (1 ≤ k ∧ k ≤ 1000 ∧ xs.length ≤ 1000) ∧ Q (.tup (List.replicate k.toNat xs).flatten) S
  | .lst xs, .int k => fun S Q => (-(2 ^ 63) ≤ k ∧ k < 2 ^ 63 ∧ xs.length * k.toNat ≤ sizeLine) ∧ newL m (List.replicate k.toNat xs).flatten S Q
  | _, _ => fun _ _ => False
def rMulA (K : PySem.W.Frag) : R2 := fun x y H Q => (rI CMul fun i j => .int (i * j)) x y H Q ∨ rRepU K x y H Q ∨ rRepL x y H Q
theorem op_mulA : OpR X (binaryOp .Mult) (rMulA X.K) := OpR.or op_mul (OpR.or op_repU op_repL)
theorem ro_mul (m : Bool) : RO2 K (rMulA K) (wMul m) := by
  intro F S H x y vx vy Q R fs rx ry q k
  cases x <;> cases y <;> first | exact q.elim | skip
  · rw [repT_int rx, repT_int ry]
    exact .inl ⟨_, _, rfl, rfl, q.1, k.int fs q.2⟩
  · rename_i xs j
    obtain ⟨a, vs, rfl, hx, rr, r1⟩ := rx
    rw [repT_int ry]
    obtain ⟨⟨q1, q2, q3⟩, q4⟩ := q
    refine .inr (.inl ⟨a, j, vs, rfl, rfl, hx, q1, q2, by rw [← rr.length]; exact q3, fun e => ?_, fun _ _ p o hp ho => newT_ok k fs (rr.rep _) q4 hp ho⟩)
    have e2 : (List.replicate j.toNat xs).flatten = xs := by
      rcases e with rfl | e
      · simp
      · rw [rr.nil_iff.mp e]
        simp
    rw [e2] at q4
    exact k.here fs r1 q4
  · rename_i xs j
    obtain ⟨a, vs, rfl, hx, rr⟩ := rx
    rw [repT_int ry]
    obtain ⟨⟨q1, q2, q3⟩, q4⟩ := q
    exact .inr (.inr ⟨a, j, vs, rfl, rfl, hx, q1, q2, by rw [← rr.length]; exact q3, fun p hp => newL_ok k fs (rr.rep _) q4 hp⟩)
end
end DL
/-! DL6: comparisons, subscripts, built-ins on data. -/
namespace DL
open PySem PySem.Spec PyProof.Rows L2
/-! ### == -/
mutual
def toPy : D → PyData
  | .non => .none
  | .bl b => .bool b
  | .int i => .int i
  | .str x => .str x
  | .tup ds => .tuple (toPys ds)
  | .wtup ds => .tuple (toPys ds)
  | .lst ds => .list (toPys ds)
  | .dic _ _ => .dict []
  | .obj _ _ _ => .dict []
  | .ref _ => .dict []
def toPys : List D → List PyData
  | [] => []
  | d :: ds => toPy d :: toPys ds
end
theorem toPys_map : ∀ ds, toPys ds = ds.map toPy
  | [] => rfl
  | d :: ds => by rw [toPys, toPys_map ds, List.map_cons]
section
variable {K : PySem.W.Frag} {X : Cx} {F H : Hp} {S : MS}
mutual
theorem dp_of (x : FS K F S H) : ∀ (d : D) (v : V), Rep K F d v → (toPy d).canLay0 = true → Dp K H v (toPy d)
  | .non, _, h, _ => by cases h; exact .non
  | .bl b, _, h, _ => by cases h; exact .bl b
  | .int i, _, h, _ => by cases h; exact .int i
  | .str s, _, h, _ => by cases h; exact .str s
  | .tup ds, _, h, l => by
    cases h with
    | tup hs ha => exact .tup (exf_t x.fr hs.sq) (dps_of x ds _ ha (by simpa [toPy, PyData.canLay0] using l))
  | .wtup ds, _, h, l => by
    cases h with
    | wtup hs ha => exact .tup (exf_t x.fr hs) (dps_of x ds _ ha (by simpa [toPy, PyData.canLay0] using l))
  | .lst ds, _, h, l => by
    cases h with
    | lst hs ha => exact .lst (.inl (exf_rd x.fr hs)) (dps_of x ds _ ha (by simpa [toPy, PyData.canLay0] using l))
  | .dic _ _, _, _, l => by simp [toPy, PyData.canLay0] at l
  | .obj _ _ _, _, _, l => by simp [toPy, PyData.canLay0] at l
  | .ref _, _, _, l => by simp [toPy, PyData.canLay0] at l
theorem dps_of (x : FS K F S H) : ∀ (ds : List D) (vs : List V), Reps K F ds vs → PyData.canLayAll0 (toPys ds) = true → DpAll K H vs (toPys ds)
  | [], _, h, _ => by cases h; exact .nil
  | d :: ds, _, h, l => by
    cases h with
    | cons h1 h2 =>
      have l' : ((toPy d).canLay0 && PyData.canLayAll0 (toPys ds)) = true := by simpa [toPys, PyData.canLayAll0] using l
      rw [Bool.and_eq_true] at l'
      exact .cons (dp_of x d _ h1 l'.1) (dps_of x ds _ h2 l'.2)
end
theorem dp_ofT (x : FS K F S H) {d : D} {v : V} (h : RepT K F H d v) (l : SeqAt.shaped (toPy d) = true) : Dp K H v (toPy d) := by
  have c := SeqAt.canLay_of_shaped l
  cases d with
  | lst ds =>
    obtain ⟨a, vs, rfl, h1, h2⟩ := h
    exact .lst (.inl h1) (dps_of x ds _ h2 (by simpa [toPy, PyData.canLay0] using c))
  | tup ds =>
    obtain ⟨a, vs, rfl, h1, h2, _⟩ := h
    exact .tup h1 (dps_of x ds _ h2 (by simpa [toPy, PyData.canLay0] using c))
  | wtup ds =>
    obtain ⟨a, vs, rfl, h1, h2⟩ := h
    exact .tup h1 (dps_of x ds _ h2 (by simpa [toPy, PyData.canLay0] using c))
  | dic ks ds => simp [toPy, PyData.canLay0] at c
  | obj C ns ds => simp [toPy, PyData.canLay0] at c
  | ref a => simp [toPy, PyData.canLay0] at c
  | non => exact dp_of x _ _ h c
  | bl b => exact dp_of x _ _ h c
  | int i => exact dp_of x _ _ h c
  | str s => exact dp_of x _ _ h c
def eqD (x y : D) : Bool := PyData.eqv (toPy x) (toPy y)
def okD (x : D) : Bool := SeqAt.shaped (toPy x)
def wEq : D → D → MS → KV2 → Prop := fun x y S Q => okD x = true ∧ okD y = true ∧ Q (.bl (eqD x y)) S
def wNe : D → D → MS → KV2 → Prop := fun x y S Q => okD x = true ∧ okD y = true ∧ Q (.bl (!eqD x y)) S
theorem ro_eq : RO2 K (rEqD K) wEq := by
  rintro F S H x y vx vy Q R fs rx ry ⟨s1, s2, q⟩ k
  exact ⟨_, _, dp_ofT fs rx s1, dp_ofT fs ry s2, s1, s2, k.bl fs q⟩
theorem ro_ne : RO2 K (rNeD K) wNe := by
  rintro F S H x y vx vy Q R fs rx ry ⟨s1, s2, q⟩ k
  exact ⟨_, _, dp_ofT fs rx s1, dp_ofT fs ry s2, s1, s2, k.bl fs q⟩
/-! ### is -/
def isNon : D → Bool
  | .non => true
  | _ => false
theorem isNon_of {d : D} {v : V} (h : RepT K F H d v) : decide (v = .non) = isNon d := by
  cases d with
  | non => rw [repT_non h]; rfl
  | bl b => rw [repT_bl h]; rfl
  | int b => rw [repT_int h]; rfl
  | str b => rw [repT_str h]; rfl
  | tup ds => obtain ⟨a, vs, rfl, _⟩ := h; rfl
  | wtup ds => obtain ⟨a, vs, rfl, _⟩ := h; rfl
  | lst ds => obtain ⟨a, vs, rfl, _⟩ := h; rfl
  | dic ks ds => obtain ⟨a, vs, rfl, _⟩ := h; rfl
  | obj C ns ds => obtain ⟨a, dx, vs, rfl, _⟩ := h; rfl
  | ref a =>
    have h : Rep K F (.ref a) v := h
    cases h
    rfl
abbrev rIsN : R2 := fun x y H Q => y = .non ∧ Q (.bl (decide (x = .non))) H
abbrev rNotN : R2 := fun x y H Q => y = .non ∧ Q (.bl (!decide (x = .non))) H
def wIsN : D → D → MS → KV2 → Prop
  | x, .non => fun S Q => Q (.bl (isNon x)) S
  | _, _ => fun _ _ => False
def wNotN : D → D → MS → KV2 → Prop
  | x, .non => fun S Q => Q (.bl (!isNon x)) S
  | _, _ => fun _ _ => False
theorem ro_isN : RO2 K rIsN wIsN := by
  intro F S H x y vx vy Q R fs rx ry q k
  cases y <;> first | exact q.elim | skip
  rw [repT_non ry]
  refine ⟨rfl, ?_⟩
  rw [isNon_of rx]
  exact k.bl fs q
theorem ro_notN : RO2 K rNotN wNotN := by
  intro F S H x y vx vy Q R fs rx ry q k
  cases y <;> first | exact q.elim | skip
  rw [repT_non ry]
  refine ⟨rfl, ?_⟩
  rw [isNon_of rx]
  exact k.bl fs q
def wIsB : D → D → MS → KV2 → Prop
  | .bl a, .bl b => fun S Q => Q (.bl (decide (a = b))) S
  | _, _ => fun _ _ => False
def wNotB : D → D → MS → KV2 → Prop
  | .bl a, .bl b => fun S Q => Q (.bl (!decide (a = b))) S
  | _, _ => fun _ _ => False
theorem ro_isB : RO2 K rIsB wIsB := by
  intro F S H x y vx vy Q R fs rx ry q k
  cases x <;> cases y <;> first | exact q.elim | skip
  rw [repT_bl rx, repT_bl ry]
  exact ⟨_, _, rfl, rfl, k.bl fs q⟩
theorem ro_notB : RO2 K rNotB wNotB := by
  intro F S H x y vx vy Q R fs rx ry q k
  cases x <;> cases y <;> first | exact q.elim | skip
  rw [repT_bl rx, repT_bl ry]
  exact ⟨_, _, rfl, rfl, k.bl fs q⟩
/-! ### in -/
def flatD : D → Bool
  | .non => true
  | .bl _ => true
  | .int _ => true
  | .str _ => true
  | _ => false
theorem flat_of {d : D} {v : V} (h : Rep K F d v) (f : flatD d = true) : flatV v = true := by
  cases h <;> first | rfl | exact absurd f Bool.false_ne_true
theorem flat_eq {d e : D} {v u : V} (h : Rep K F d v) (g : Rep K F e u) (f : flatD d = true) (f2 : flatD e = true) : eqV v u = eqD d e := by
  cases h <;> cases g <;> first | exact absurd f Bool.false_ne_true | exact absurd f2 Bool.false_ne_true | simp [eqV, eqD, toPy, PyData.eqv]
theorem flat_all : ∀ {ds : List D} {vs : List V}, Reps K F ds vs → ds.all flatD = true → vs.all flatV = true
  | [], _, h, _ => by cases h; rfl
  | d :: ds, _, h, f => by
    cases h with
    | cons h1 h2 =>
      rw [List.all_cons, Bool.and_eq_true] at f
      rw [List.all_cons, flat_of h1 f.1, flat_all h2 f.2]
      rfl
theorem flat_in {d : D} {v : V} (h : Rep K F d v) (f : flatD d = true) : ∀ {ds : List D} {vs : List V}, Reps K F ds vs → ds.all flatD = true → inV v vs = ds.any fun y => eqD y d
  | [], _, g, _ => by cases g; rfl
  | e :: ds, _, g, f2 => by
    cases g with
    | cons h1 h2 =>
      rw [List.all_cons, Bool.and_eq_true] at f2
      unfold inV
      rw [List.any_cons, List.any_cons, flat_eq h1 h f2.1 f]
      have := flat_in h f h2 f2.2
      unfold inV at this
      rw [this]
def inD (x : D) (ds : List D) : Bool := ds.any fun y => eqD y x
def wIn (neg : Bool) : D → D → MS → KV2 → Prop
  | x, .lst ds => fun S Q => flatD x = true ∧ ds.all flatD = true ∧ Q (.bl (if neg then !inD x ds else inD x ds)) S
  | x, .tup ds => fun S Q => flatD x = true ∧ ds.all flatD = true ∧ Q (.bl (if neg then !inD x ds else inD x ds)) S
  | _, _ => fun _ _ => False
theorem repT_flat {d : D} {v : V} (h : RepT K F H d v) (f : flatD d = true) : Rep K F d v := by
  cases d <;> first | exact h | cases f
theorem ro_in (neg : Bool) : RO2 K (rIn K neg) (wIn neg) := by
  intro F S H x y vx vy Q R fs rx ry q k
  cases y <;> first | exact q.elim | skip
  · obtain ⟨f1, f2, q⟩ := q
    obtain ⟨a, vs, rfl, h1, h2, _⟩ := ry
    have r := repT_flat rx f1
    refine ⟨a, vs, rfl, .inr h1, flat_of r f1, flat_all h2 f2, ?_⟩
    rw [flat_in r f1 h2 f2]
    exact k.bl fs q
  · obtain ⟨f1, f2, q⟩ := q
    obtain ⟨a, vs, rfl, h1, h2⟩ := ry
    have r := repT_flat rx f1
    refine ⟨a, vs, rfl, .inl (.inl h1), flat_of r f1, flat_all h2 f2, ?_⟩
    rw [flat_in r f1 h2 f2]
    exact k.bl fs q
/-! ### subscripts -/
def wIx : D → D → MS → KV2 → Prop
  | .lst ds, .int i => fun S Q => ∃ d, atI ds i = some d ∧ Q d S
  | .tup ds, .int i => fun S Q => ∃ d, atI ds i = some d ∧ Q d S
  | _, _ => fun _ _ => False
theorem reps_at {ds : List D} {vs : List V} {i : Int} {d : D} (r : Reps K F ds vs) (h : atI ds i = some d) : ∃ v, atI vs i = some v ∧ Rep K F d v := by
  unfold atI at h ⊢
  rw [← r.length]
  cases e : ixN ds.length i with
  | none => rw [e] at h; cases h
  | some j =>
    rw [e] at h
    exact r.get h
theorem ro_ix : RO2 K (rIx K) wIx := by
  intro F S H x y vx vy Q R fs rx ry q k
  cases x <;> cases y <;> first | exact q.elim | skip
  · obtain ⟨d, hd, q⟩ := q
    obtain ⟨a, vs, rfl, h1, h2, _⟩ := rx
    obtain ⟨v, hv, rv⟩ := reps_at h2 hd
    rw [repT_int ry]
    exact .inr (.inl ⟨a, vs, _, v, rfl, rfl, h1, hv, k.here fs rv q⟩)
  · obtain ⟨d, hd, q⟩ := q
    obtain ⟨a, vs, rfl, h1, h2⟩ := rx
    obtain ⟨v, hv, rv⟩ := reps_at h2 hd
    rw [repT_int ry]
    exact .inl ⟨a, vs, _, v, rfl, rfl, .inl h1, hv, k.here fs rv q⟩
variable {L : Lk} {a b c : Expr} {ta tb tc : TE} {wa wb wc : WE} {pos p2 : Pos}
theorem de_ix (ha : DE X L a ta wa) (hb : DE X L b tb wb) (hs : PlainIx b := by exact fun _ _ => rfl) : DE X L (.Subscript a b pos) (tOp (rIx X.K) ta tb) (wOp wIx wa wb) := ⟨pe_ix ix_seq ha.pe hb.pe hs, re_op ro_ix ha.re hb.re⟩
/-- slices -/
abbrev WO := Rho → MS → (Option Int → Rho → MS → Prop) → Prop
def RO (K : PySem.W.Frag) (L : Lk) (t : TO) (w : WO) : Prop :=
  ∀ F ρ S σ H (Q : Option Int → Rho → MS → Prop) (R : Option Int → Hp → Prop), Mt K L F ρ S σ H → w ρ S Q → (∀ b H' ρ' S' F', ExF F F' → Mt K L F' ρ' S' σ H' → Q b ρ' S' → R b H') → t σ H R
structure DO (X : Cx) (L : Lk) (e : Option Expr) (t : TO) (w : WO) : Prop where
  po : PO X e t
  ro : RO X.K L t w
def wNoPart : WO := fun ρ S Q => Q none ρ S
def wPart (w : WE) : WO := fun ρ S Q => w ρ S fun x ρ1 S1 => ∃ i, x = .int i ∧ Q (some i) ρ1 S1
theorem do_none : DO X L none tNoPart wNoPart := ⟨po_none, fun F ρ S σ H Q R m q k => k none H ρ S F (ExF.refl F) m q⟩
theorem do_some (h : DE X L a ta wa) : DO X L (some a) (tPart ta) (wPart wa) := ⟨po_some h.pe, fun F ρ S σ H Q R m q k => h.re F ρ S σ H _ _ m q fun v H1 d ρ1 S1 F1 e1 m1 r1 ⟨i, e, q1⟩ => by
  subst e
  cases r1
  exact ⟨i, rfl, k _ H1 ρ1 S1 F1 e1 m1 q1⟩⟩
def cutD (xs : List D) (lo hi : Option Int) : List D := (xs.drop (HT.sIx xs.length 0 lo)).take (HT.sIx xs.length xs.length hi - HT.sIx xs.length 0 lo)
theorem reps_cut {ds : List D} {vs : List V} (r : Reps K F ds vs) (lo hi : Option Int) : Reps K F (cutD ds lo hi) (cutV vs lo hi) := by
  unfold cutD cutV
  rw [r.length]
  exact (r.drop _).take _
/-- the cut of a value -/
def wCut (m : Bool) (lo hi : Option Int) : D → MS → KV2 → Prop
  | .lst ds => fun S Q => newL m (cutD ds lo hi) S Q
  | .tup ds => fun S Q => Q (.tup (cutD ds lo hi)) S
  | _ => fun _ _ => False
def wSl (m : Bool) (wa : WE) (wl wh : WO) : WE := fun ρ S Q => wa ρ S fun x ρ1 S1 => wl ρ1 S1 fun lo ρ2 S2 => wh ρ2 S2 fun hi ρ3 S3 => wCut m lo hi (rd S3 x) S3 fun d S4 => Q d ρ3 S4
/-- a list's cut, a tuple's -/
def rSlA2 (K : PySem.W.Frag) : V → Option Int → Option Int → Hp → VK → Prop := fun x lo hi H Q => rSlL K x lo hi H Q ∨ rSlF K x lo hi H Q
theorem sl_all : SlR X (rSlA2 X.K) := SlR.or sl_list sl_tupF
theorem cut_whole {ds : List D} {lo hi : Option Int} (h : HT.sIx ds.length 0 lo = 0 ∧ HT.sIx ds.length ds.length hi = ds.length) : cutD ds lo hi = ds := by
  unfold cutD
  rw [h.1, h.2]
  simp
theorem re_sl (m : Bool) {tl th : TO} {wl wh : WO} (h : RE K L ta wa) (hl : RO K L tl wl) (hh : RO K L th wh) : RE K L (tSl (rSlA2 K) ta tl th) (wSl m wa wl wh) := by
  intro F ρ S σ H Q R mt q k
  refine h F ρ S σ H _ _ mt q fun x H1 dx ρ1 S1 F1 e1 m1 r1 q1 => ?_
  refine hl F1 ρ1 S1 σ H1 _ _ m1 q1 fun lo H2 ρ2 S2 F2 e2 m2 q2 => ?_
  refine hh F2 ρ2 S2 σ H2 _ _ m2 q2 fun hi H3 ρ3 S3 F3 e3 m3 q3 => ?_
  have rt := rd_ok m3.fs ((r1.up e2).up e3)
  have k2 : KO K F3 (fun d S4 => Q d ρ3 S4) R := fun v H' d S' F' e x r q => k v H' d ρ3 S' F' (((e1.trans e2).trans e3).trans e) (m3.step e x) r q
  generalize rd S3 dx = y at rt q3
  cases y <;> first | exact q3.elim | skip
  · rename_i ds
    obtain ⟨a, vs, rfl, h1, h2, h3⟩ := rt
    refine .inr ⟨a, vs, rfl, h1, fun hw => ?_, fun hw p o hp ho => newT_ok k2 m3.fs (reps_cut h2 lo hi) q3 hp ho⟩
    rw [← h2.length] at hw
    have q4 : Q (.tup (cutD ds lo hi)) ρ3 S3 := q3
    rw [cut_whole hw] at q4
    exact k2.here m3.fs h3 q4
  · obtain ⟨a, vs, rfl, h1, h2⟩ := rt
    exact .inl ⟨a, vs, rfl, .inl h1, fun p hp => newL_ok k2 m3.fs (reps_cut h2 lo hi) q3 hp⟩
theorem de_sl (m : Bool) {lo hi : Option Expr} {tl th : TO} {wl wh : WO} (h : DE X L a ta wa) (hl : DO X L lo tl wl) (hh : DO X L hi th wh) : DE X L (.Subscript a (.Slice lo hi none p2) pos) (tSl (rSlA2 X.K) ta tl th) (wSl m wa wl wh) :=
  ⟨pe_slice sl_all h.pe hl.po hh.po, re_sl m h.re hl.ro hh.ro⟩
/-! ### built-ins -/
variable {x : Str} {p : Pos} {e : Expr} {es : List Expr} {t : TA} {wr : WA} {id T : String} {r : List V → Hp → VK → Prop}
def wCB (wo : List D → MS → KV2 → Prop) (wr : WA) : WE := fun ρ S Q => wr ρ S fun ds ρ1 S1 => wo ds S1 fun d S2 => Q d ρ1 S2
theorem re_cb {wo : List D → MS → KV2 → Prop} (hr : ROc K r wo) (h : RA K L t wr) : RE K L (tCB r t) (wCB wo wr) := by
  intro F ρ S σ H Q R m q k
  refine h F ρ S σ H _ _ m q fun vs H1 ds ρ1 S1 F1 e1 m1 r1 q1 => ?_
  exact hr F1 S1 H1 ds vs _ _ m1.fs r1 q1 fun v H' d S' F' e x r q => k v H' d ρ1 S' F' (e1.trans e) (m1.step e x) r q
theorem de_cb {wo : List D → MS → KV2 → Prop} (hc : CallR X (.builtin id) r) (hr : ROc X.K r wo) (hg : Gl X x) (hm : X.mg x = none) (hv : bootBuiltins x = some (.builtin id)) (ha : DA X L (e :: es) t wr) (hn : x ≠ "__name__" := by decide) (hdb : (x == ("__debug__" : Str)) = false := by decide)
    (he : starEach (e :: es) X.env = (false, eval e X.env) :: starEach es X.env := by rfl) (hpl : (backTo pos (starEach es X.env)).any (·.1) = false := by rfl) : DE X L (.Call (.Name x p) (e :: es) [] pos) (tCB r t) (wCB wo wr) :=
  ⟨pe_callB hc hg hm hv ha.pa hn hdb he hpl, re_cb hr ha.ra⟩
theorem de_ct {wo : List D → MS → KV2 → Prop} (hc : CallR X (.type T) r) (hr : ROc X.K r wo) (hg : Gl X x) (hm : X.mg x = none) (hv : bootBuiltins x = some (.type T)) (ha : DA X L (e :: es) t wr) (hn : x ≠ "__name__" := by decide) (hdb : (x == ("__debug__" : Str)) = false := by decide)
    (he : starEach (e :: es) X.env = (false, eval e X.env) :: starEach es X.env := by rfl) (hpl : (backTo pos (starEach es X.env)).any (·.1) = false := by rfl) : DE X L (.Call (.Name x p) (e :: es) [] pos) (tCB r t) (wCB wo wr) :=
  ⟨pe_callTy hc hg hm hv ha.pa hn hdb he hpl, re_cb hr ha.ra⟩
/-- one argument, its data read through the store -/
def w1 (f : D → MS → KV2 → Prop) : List D → MS → KV2 → Prop := fun ds S Q => match ds with
  | [d] => f (rd S d) S Q
  | _ => False
def w2 (f : D → D → MS → KV2 → Prop) : List D → MS → KV2 → Prop := fun ds S Q => match ds with
  | [d, e] => f (rd S d) (rd S e) S Q
  | _ => False
theorem roc1 {f : D → MS → KV2 → Prop} (h : ∀ F S H x v Q R, FS K F S H → RepT K F H x v → f x S Q → KO K F Q R → r [v] H R) : ROc K r (w1 f) := by
  intro F S H xs vs Q R fs rs q k
  cases rs with
  | nil => exact q.elim
  | cons r1 r2 =>
    cases r2 with
    | nil => exact h F S H _ _ Q R fs (rd_ok fs r1) q k
    | cons _ _ => exact q.elim
theorem roc2 {f : D → D → MS → KV2 → Prop} (h : ∀ F S H x y v u Q R, FS K F S H → RepT K F H x v → RepT K F H y u → f x y S Q → KO K F Q R → r [v, u] H R) : ROc K r (w2 f) := by
  intro F S H xs vs Q R fs rs q k
  cases rs with
  | nil => exact q.elim
  | cons r1 r2 =>
    cases r2 with
    | nil => exact q.elim
    | cons r2 r3 =>
      cases r3 with
      | nil => exact h F S H _ _ _ _ Q R fs (rd_ok fs r1) (rd_ok fs r2) q k
      | cons _ _ => exact q.elim
def cLen : D → MS → KV2 → Prop
  | .lst ds => fun S Q => Q (.int ds.length) S
  | .tup ds => fun S Q => Q (.int ds.length) S
  | .str z => fun S Q => z.length ≤ sizeLine ∧ Q (.int z.length) S
  | _ => fun _ _ => False
abbrev rLen1 (K : PySem.W.Frag) : List V → Hp → VK → Prop := fun xs H Q => ∃ x n, xs = [x] ∧ LenV K x H n ∧ Q (.int n) H
theorem roc_len : ROc K (rLen1 K) (w1 cLen) := roc1 fun F S H x v Q R fs rx q k => by
  cases x <;> first | exact q.elim | skip
  · rw [repT_str rx]
    exact ⟨_, _, rfl, ⟨q.1, rfl⟩, k.int fs q.2⟩
  · obtain ⟨a, vs, rfl, h1, h2, _⟩ := rx
    refine ⟨_, _, rfl, .inr ⟨vs, h1, rfl⟩, ?_⟩
    rw [← h2.length]
    exact k.int fs q
  · obtain ⟨a, vs, rfl, h1, h2⟩ := rx
    refine ⟨_, _, rfl, .inl ⟨vs, .inl h1, rfl⟩, ?_⟩
    rw [← h2.length]
    exact k.int fs q
def cAbs : D → MS → KV2 → Prop
  | .int i => fun S Q => Q (.int (if i < 0 then -i else i)) S
  | _ => fun _ _ => False
abbrev rAbs1 : List V → Hp → VK → Prop := fun xs H Q => ∃ i, xs = [.int i] ∧ Q (.int (if i < 0 then -i else i)) H
theorem roc_abs : ROc K rAbs1 (w1 cAbs) := roc1 fun F S H x v Q R fs rx q k => by
  cases x <;> first | exact q.elim | skip
  rw [repT_int rx]
  exact ⟨_, rfl, k.int fs q⟩
def cInt : D → MS → KV2 → Prop
  | .int i => fun S Q => Q (.int i) S
  | .bl b => fun S Q => Q (.int (if b then 1 else 0)) S
  | _ => fun _ _ => False
abbrev rInt1 : List V → Hp → VK → Prop := fun xs H Q => (∃ i, xs = [.int i] ∧ Q (.int i) H) ∨ ∃ k, xs = [.bl k] ∧ Q (.int (if k then 1 else 0)) H
theorem roc_int : ROc K rInt1 (w1 cInt) := roc1 fun F S H x v Q R fs rx q k => by
  cases x <;> first | exact q.elim | skip
  · rw [repT_bl rx]
    exact .inr ⟨_, rfl, k.int fs q⟩
  · rw [repT_int rx]
    exact .inl ⟨_, rfl, k.int fs q⟩
abbrev rMin2 : List V → Hp → VK → Prop := fun xs H Q => ∃ i j, xs = [.int i, .int j] ∧ Q (.int (if j < i then j else i)) H
abbrev rMax2 : List V → Hp → VK → Prop := fun xs H Q => ∃ i j, xs = [.int i, .int j] ∧ Q (.int (if j > i then j else i)) H
def cII (g : Int → Int → Int) : D → D → MS → KV2 → Prop
  | .int i, .int j => fun S Q => Q (.int (g i j)) S
  | _, _ => fun _ _ => False
theorem roc_min2 : ROc K rMin2 (w2 (cII fun i j => if j < i then j else i)) := roc2 fun F S H x y v u Q R fs rx ry q k => by
  cases x <;> cases y <;> first | exact q.elim | skip
  rw [repT_int rx, repT_int ry]
  exact ⟨_, _, rfl, k.int fs q⟩
theorem roc_max2 : ROc K rMax2 (w2 (cII fun i j => if j > i then j else i)) := roc2 fun F S H x y v u Q R fs rx ry q k => by
  cases x <;> cases y <;> first | exact q.elim | skip
  rw [repT_int rx, repT_int ry]
  exact ⟨_, _, rfl, k.int fs q⟩
/-- all, any of a list of flags -/
def cAll : D → MS → KV2 → Prop
  | .lst ds => fun S Q => ∃ bs : List Bool, ds = bs.map D.bl ∧ Q (.bl (bs.all _root_.id)) S
  | _ => fun _ _ => False
def cAny : D → MS → KV2 → Prop
  | .lst ds => fun S Q => ∃ bs : List Bool, ds = bs.map D.bl ∧ Q (.bl (bs.any _root_.id)) S
  | _ => fun _ _ => False
theorem roc_all : ROc K (rAll K) (w1 cAll) := roc1 fun F S H x v Q R fs rx q k => by
  cases x <;> first | exact q.elim | skip
  obtain ⟨bs, e, q⟩ := q
  subst e
  obtain ⟨a, vs, rfl, h1, h2⟩ := rx
  have e := h2.bls
  subst e
  exact ⟨a, bs, rfl, .inl h1, k.bl fs q⟩
theorem roc_any : ROc K (rAny K) (w1 cAny) := roc1 fun F S H x v Q R fs rx q k => by
  cases x <;> first | exact q.elim | skip
  obtain ⟨bs, e, q⟩ := q
  subst e
  obtain ⟨a, vs, rfl, h1, h2⟩ := rx
  have e := h2.bls
  subst e
  exact ⟨a, bs, rfl, .inl h1, k.bl fs q⟩
/-- list(x), tuple(x) -/
def cList (m : Bool) : D → MS → KV2 → Prop
  | .lst ds => fun S Q => newL m ds S Q
  | .tup ds => fun S Q => newL m ds S Q
  | _ => fun _ _ => False
abbrev rListOf (K : PySem.W.Frag) : List V → Hp → VK → Prop := fun xs H Q => ∃ p ys, xs = [.ref p] ∧ (SqL K H p ys ∨ SqT K H p ys) ∧ ∀ l, H l = none → Q (.ref l) (upd H l (.lst ys))
theorem roc_list (m : Bool) : ROc K (rListOf K) (w1 (cList m)) := roc1 fun F S H x v Q R fs rx q k => by
  cases x <;> first | exact q.elim | skip
  · obtain ⟨a, vs, rfl, h1, h2, _⟩ := rx
    exact ⟨a, vs, rfl, .inr h1, fun l hl => newL_ok k fs h2 q hl⟩
  · obtain ⟨a, vs, rfl, h1, h2⟩ := rx
    exact ⟨a, vs, rfl, .inl (.inl h1), fun l hl => newL_ok k fs h2 q hl⟩
def cTuple : D → MS → KV2 → Prop
  | .lst ds => fun S Q => Q (.tup ds) S
  | .tup ds => fun S Q => Q (.tup ds) S
  | _ => fun _ _ => False
abbrev rTupleOf (K : PySem.W.Frag) : List V → Hp → VK → Prop := rTupF K
theorem roc_tuple : ROc K (rTupleOf K) (w1 cTuple) := roc1 fun F S H x v Q R fs rx q k => by
  cases x <;> first | exact q.elim | skip
  · obtain ⟨a, vs, rfl, h1, h2, h3⟩ := rx
    exact ⟨a, vs, rfl, .inr ⟨h1, k.here fs h3 q⟩⟩
  · obtain ⟨a, vs, rfl, h1, h2⟩ := rx
    exact ⟨a, vs, rfl, .inl ⟨.inl h1, fun l o hl ho => newT_ok k fs h2 q hl ho⟩⟩
/-- sorted of ints -/
def cSortedI (m : Bool) : D → MS → KV2 → Prop
  | .lst ds => fun S Q => ∃ ns : List Int, ds = ns.map D.int ∧ ∀ ns' : List Int, ns'.Perm ns → ns'.Pairwise (· ≤ ·) → newL m (ns'.map D.int) S Q
  | _ => fun _ _ => False
theorem roc_sortedI (m : Bool) : ROc K (rSortedI K) (w1 (cSortedI m)) := roc1 fun F S H x v Q R fs rx q k => by
  cases x <;> first | exact q.elim | skip
  obtain ⟨ns, e, q⟩ := q
  subst e
  obtain ⟨a, vs, rfl, h1, h2⟩ := rx
  have e := h2.ints
  subst e
  exact ⟨a, ns, rfl, .inl h1, fun ns' p hp hs hn => newL_ok k fs (.of_ints ns') (q ns' hp hs) hn⟩
end
end DL
/-! DL7: methods, stores, what is walked, isinstance. -/
namespace DL
open PySem PySem.Spec PyProof.Rows L2
section
variable {K : PySem.W.Frag} {X : Cx} {F H : Hp} {S : MS} {L : Lk} {a b c e o : Expr} {es : List Expr} {ta tb tc to : TE} {wa wb wc wo : WE} {t : TA} {wr : WA} {pos p2 p apos cpos : Pos}
/-! ### methods of lists -/
def TyD (T : String) : D → Prop
  | .lst _ => T = "list"
  | .str _ => T = "str"
  | .dic _ _ => T = "dict"
  | _ => False
theorem tyD_ok {T : String} {d : D} {v : V} (h : RepT K F H d v) (ty : TyD T d) : tyV K T v H := by
  cases d <;> first | exact False.elim ty | skip
  · rw [repT_str h]
    exact ty
  · obtain ⟨a, vs, rfl, h1, h2⟩ := h
    exact .inl ⟨ty, vs, .inl h1⟩
  · obtain ⟨a, kvs, rfl, h1, h2⟩ := h
    exact .inr (.inr (.inl ⟨ty, .inl ⟨kvs, h1⟩⟩))
/-- a method on values: the receiver as it is (an address, where it may change) -/
def RM (K : PySem.W.Frag) (r : V → List V → Hp → VK → Prop) (wm : D → List D → MS → KV2 → Prop) : Prop :=
  ∀ F S H x vx xs vs Q R, FS K F S H → Rep K F x vx → Reps K F xs vs → wm x xs S Q → KO K F Q R → r vx vs H R
def wBM (T : String) (wm : D → List D → MS → KV2 → Prop) (wo : WE) (wr : WA) : WE := fun ρ S Q => wo ρ S fun x ρ1 S1 => TyD T (rd S1 x) ∧ wr ρ1 S1 fun xs ρ2 S2 => wm x xs S2 fun d S3 => Q d ρ2 S3
theorem re_bm {T : String} {r : V → List V → Hp → VK → Prop} {wm : D → List D → MS → KV2 → Prop} (hr : RM K r wm) (ho : RE K L to wo) (ha : RA K L t wr) : RE K L (tBM K T r to t) (wBM T wm wo wr) := by
  intro F ρ S σ H Q R m q k
  refine ho F ρ S σ H _ _ m q fun x H1 dx ρ1 S1 F1 e1 m1 r1 ⟨ty, q1⟩ => ⟨tyD_ok (rd_ok m1.fs r1) ty, ?_⟩
  refine ha F1 ρ1 S1 σ H1 _ _ m1 q1 fun vs H2 ds ρ2 S2 F2 e2 m2 r2 q2 => ?_
  exact hr F2 S2 H2 _ _ _ _ _ _ m2.fs (r1.up e2) r2 q2 fun v H' d S' F' e x r q => k v H' d ρ2 S' F' ((e1.trans e2).trans e) (m2.step e x) r q
theorem re_bm0 {T : String} {r : V → List V → Hp → VK → Prop} {wm : D → List D → MS → KV2 → Prop} (hr : RM K r wm) (ho : RE K L to wo) : RE K L (tBM0 K T r to) (wBM T wm wo wNil) := by
  intro F ρ S σ H Q R m q k
  refine ho F ρ S σ H _ _ m q fun x H1 dx ρ1 S1 F1 e1 m1 r1 ⟨ty, q1⟩ => ⟨tyD_ok (rd_ok m1.fs r1) ty, ?_⟩
  exact hr F1 S1 H1 _ _ _ _ _ _ m1.fs r1 .nil q1 fun v H' d S' F' e x r q => k v H' d ρ1 S' F' (e1.trans e) (m1.step e x) r q
theorem de_bm {T id : String} {name : Str} {r : V → List V → Hp → VK → Prop} {wm : D → List D → MS → KV2 → Prop} (pa : PlainAttrs T) (slot : Slot T name id) (hty : typeOf (.builtin id) = pure (.type "method_descriptor")) (hm : MtR X id r) (hr : RM X.K r wm) (ho : DE X L o to wo) (ha : DA X L (e :: es) t wr)
    (hbase : attributeBase o name X.env (eval o X.env) = eval o X.env := by rfl)
    (hfew : ((backTo cpos (starEach (e :: es) X.env)).all (fun x => !x.1) && (backToKw cpos (keywordEach [] X.env)).all (fun x => x.1.isSome)
      && decide ((e :: es).length + ([] : List Keyword).length + (if ([] : List Keyword).isEmpty then 0 else 1) < 30)) = true := by rfl)
    (hline : (apos.endLine == cpos.line) = true := by rfl) (hs : starEach (e :: es) X.env = (false, eval e X.env) :: starEach es X.env := by rfl) (hplain : (backTo cpos (starEach es X.env)).any (·.1) = false := by rfl) :
    DE X L (.Call (.Attribute o name apos) (e :: es) [] cpos) (tBM X.K T r to t) (wBM T wm wo wr) := ⟨pe_bm pa slot hty hm ho.pe ha.pa hbase hfew hline hs hplain, re_bm hr ho.re ha.ra⟩
theorem de_bm0 {T id : String} {name : Str} {r : V → List V → Hp → VK → Prop} {wm : D → List D → MS → KV2 → Prop} (pa : PlainAttrs T) (slot : Slot T name id) (hty : typeOf (.builtin id) = pure (.type "method_descriptor")) (hm : MtR X id r) (hr : RM X.K r wm) (ho : DE X L o to wo)
    (hbase : attributeBase o name X.env (eval o X.env) = eval o X.env := by rfl) (hline : (apos.endLine == cpos.line) = true := by rfl) : DE X L (.Call (.Attribute o name apos) [] [] cpos) (tBM0 X.K T r to) (wBM T wm wo wNil) := ⟨pe_bm0 pa slot hty hm ho.pe hbase hline, re_bm0 hr ho.re⟩
def wAppend : D → List D → MS → KV2 → Prop := fun x xs S Q => ∃ a ds d, x = .ref a ∧ xs = [d] ∧ S a = some (.lst ds) ∧ ds.length < sizeLine ∧ Q .non (S.set a (.lst (ds ++ [d])))
theorem KO.put {F : Hp} {S : MS} {H : Hp} {Q : KV2} {R : VK} (k : KO K F Q R) (fs : FS K F S H) {a : Addr} {n m : MO} {ob : HO} {d : D} {v : V} (hs : S a = some n) (nm : isOpq m = false) (ok : MOk K F (S.set a m) (upd H a ob) a m) (r : Rep K F d v) (q : Q d (S.set a m)) : R v (upd H a ob) :=
  k v _ d _ F (ExF.refl F) (fs.write hs nm ok) r q
theorem rm_append : RM K rAppend wAppend := by
  rintro F S H x vx xs vs Q R fs rx rs ⟨a, ds, d, rfl, rfl, hs, hz, q⟩ k
  cases rx
  cases rs with
  | cons r1 r2 =>
    cases r2
    obtain ⟨_, us, hu, ru⟩ := fs.st a _ hs
    exact ⟨a, us, _, rfl, rfl, hu, by rw [← ru.length]; exact hz, k.put fs (m := .lst (ds ++ [d])) hs rfl ⟨_, upd_same, ru.append (.cons r1 .nil)⟩ .non q⟩
/-- extend by a list -/
def rExtR : V → List V → Hp → VK → Prop := fun x vs H Q => ∃ l b xs zs, x = .ref l ∧ vs = [.ref b] ∧ H l = some (.lst xs) ∧ Rd H b (.lst zs) ∧ xs.length + zs.length ≤ sizeLine ∧ Q .non (upd H l (.lst (xs ++ zs)))
theorem mt_extR : MtR X "list.extend" rExtR := by
  intro pins s σ H x vs v us Q I rx rv h
  obtain ⟨l, b, xs, zs, rfl, rfl, hH, hB, hz, q⟩ := h
  cases rx
  obtain ⟨u, rfl, ru⟩ := rv.one
  cases ru
  obtain ⟨z, its, n, r, hl, e⟩ := I.lstM hH
  obtain ⟨z2, its2, n2, r2, hl2, e2⟩ := lstR I hB
  have hsz : its.toArray.size + its2.toArray.size ≤ sizeLine := by rw [List.size_toArray, List.size_toArray]; omega
  have hlong : ¬ (!its.toArray.isEmpty && Builtin.List.listTooLong (its.toArray.size + its2.toArray.size)) = true := by
    rw [notLongL hsz, Bool.and_false]
    exact Bool.false_ne_true
  refine call_meets F.slot_list_extend ⟨_, e, rfl⟩ F.entry_list_extend (F.args_list_extend_2 _ _)
    (AutoSeq1.list_extend_list_list_0 l its.toArray n b its2.toArray n2 hlong (by rw [List.size_toArray]; omega) (by omega)) ⟨e, e2, ?_⟩
  refine ⟨.non, _, I.lset (its' := its ++ its2) hH e (by simp) (r.append r2) ?_, rfl, q⟩
  rw [List.length_append]
  omega
def wExtend : D → List D → MS → KV2 → Prop := fun x xs S Q => ∃ a ds y es, x = .ref a ∧ xs = [y] ∧ rd S y = .lst es ∧ S a = some (.lst ds) ∧ ds.length + es.length ≤ sizeLine ∧ Q .non (S.set a (.lst (ds ++ es)))
theorem rm_extend : RM K rExtR wExtend := by
  rintro F S H x vx xs vs Q R fs rx rs ⟨a, ds, y, es, rfl, rfl, hy, hs, hz, q⟩ k
  cases rx
  cases rs with
  | cons r1 r2 =>
    cases r2
    obtain ⟨_, us, hu, ru⟩ := fs.st a _ hs
    have r3 := rd_ok fs r1
    rw [hy] at r3
    obtain ⟨b, ws, rfl, hb, rb⟩ := r3
    exact ⟨a, b, us, ws, rfl, rfl, hu, hb, by rw [← ru.length, ← rb.length]; exact hz, k.put fs (m := .lst (ds ++ es)) hs rfl ⟨_, upd_same, ru.append rb⟩ .non q⟩
def wPop : D → List D → MS → KV2 → Prop := fun x xs S Q => ∃ a ds d, x = .ref a ∧ xs = [] ∧ S a = some (.lst ds) ∧ ds[ds.length - 1]? = some d ∧ Q d (S.set a (.lst ds.dropLast))
theorem rm_pop : RM K rPop wPop := by
  rintro F S H x vx xs vs Q R fs rx rs ⟨a, ds, d, rfl, rfl, hs, hd, q⟩ k
  cases rx
  cases rs
  obtain ⟨_, us, hu, ru⟩ := fs.st a _ hs
  obtain ⟨v, hv, rv⟩ := ru.get hd
  exact ⟨a, us, v, rfl, rfl, hu, by rw [← ru.length]; exact hv, k.put fs (m := .lst ds.dropLast) hs rfl ⟨_, upd_same, ru.dropLast⟩ rv q⟩
def wPopAt : D → List D → MS → KV2 → Prop := fun x xs S Q => ∃ a ds i j d, x = .ref a ∧ xs = [.int i] ∧ S a = some (.lst ds) ∧ i = ((j : Nat) : Int) ∧ ds[j]? = some d ∧ ds.length ≤ sizeLine ∧ Q d (S.set a (.lst (ds.eraseIdx j)))
theorem rm_popAt : RM K rPopAt wPopAt := by
  rintro F S H x vx xs vs Q R fs rx rs ⟨a, ds, i, j, d, rfl, rfl, hs, rfl, hd, hz, q⟩ k
  cases rx
  cases rs with
  | cons r1 r2 =>
    cases r2
    cases r1
    obtain ⟨_, us, hu, ru⟩ := fs.st a _ hs
    obtain ⟨v, hv, rv⟩ := ru.get hd
    have hj : j < ds.length := (List.getElem?_eq_some_iff.mp hd).1
    have hl : (sizeLine : Nat) = 16777216 := sizeLine_eq
    have hlen := ru.length
    exact ⟨a, us, _, j, v, rfl, rfl, hu, by omega, by omega, PySem.StrLaws.seqIndex_nonneg (by omega) (by omega), hv, k.put fs (m := .lst (ds.eraseIdx j)) hs rfl ⟨_, upd_same, ru.eraseIdx j⟩ rv q⟩
/-! ### xs[i] = v -/
def wSetL : D → D → D → MS → (MS → Prop) → Prop := fun x i v S Q => ∃ a ds k j, x = .ref a ∧ i = .int k ∧ S a = some (.lst ds) ∧ ixN ds.length k = some j ∧ Q (S.set a (.lst (ds.set j v)))
def wgSub (wo wi : WE) (ws : D → D → D → MS → (MS → Prop) → Prop) : WG := fun d ρ S Q => wo ρ S fun x ρ1 S1 => wi ρ1 S1 fun i ρ2 S2 => ws x i d S2 fun S3 => Q ρ2 S3
theorem rg_setL {ti : TE} {wi : WE} (ho : RE K L to wo) (hi : RE K L ti wi) : RG K L [] (gSub to ti rSetL) (wgSub wo wi wSetL) := by
  intro F ρ S σ H d v Q R m r q k
  refine ho F ρ S σ H _ _ m q fun x H1 dx ρ1 S1 F1 e1 m1 r1 q1 => ?_
  refine hi F1 ρ1 S1 σ H1 _ _ m1 q1 fun y H2 dy ρ2 S2 F2 e2 m2 r2 ⟨a, ds, kk, j, h1, h2, hs, hj, q2⟩ => ?_
  subst h1 h2
  cases r1
  cases r2
  obtain ⟨_, us, hu, ru⟩ := m2.fs.st a _ hs
  have fs3 := m2.fs.write (n := .lst (ds.set j d)) hs rfl ⟨us.set j v, upd_same, Reps.set ((r.up e1).up e2) j ru⟩
  exact ⟨a, us, kk, j, rfl, rfl, hu, by rw [← ru.length]; exact hj, k F2 ρ2 _ σ _ (e1.trans e2) (m2.step (ExF.refl F2) fs3) rfl q2⟩
theorem dg_setL {i : Expr} {ti : TE} {wi : WE} (ho : DE X L o to wo) (hi : DE X L i ti wi)
    (ha : ∀ v, assign (.Subscript o i pos) X.env v = (do
      let ov ← holding [v] (eval o X.env)
      let iv ← holding [v, ov] (eval i X.env)
      standAt pos
      holding [v, ov, iv] (setItem ov iv v)
      release [v, ov, iv] []) := by intro _; rfl) : DG X L [] (.Subscript o i pos) (gSub to ti rSetL) (wgSub wo wi wSetL) := ⟨pg_sub ho.pe hi.pe set_list ha, rg_setL ho.re hi.re⟩
/-! ### what is walked -/
/-- a list or a tuple, as it stands -/
def iSeq (K : PySem.W.Frag) (tl : TE) : TI := fun σ H R => tl σ H fun x H1 => ∃ a, x = .ref a ∧ (((∃ xs, SqL K H1 a xs) ∧ R (Itl K a) H1) ∨ ((∃ xs, SqT K H1 a xs) ∧ R (Itt K a) H1))
theorem pi_seq {tg l : Expr} {tl : TE} (hl : PE X l tl) : PI X tg l (iSeq X.K tl) := by
  refine ⟨fun pins s σ H R I h => ?_⟩
  refine thn (hl.run pins s σ H _ I h) fun v s1 ⟨x, H1, I1, r1, q1⟩ => ?_
  obtain ⟨a, e, q1⟩ := q1
  subst e
  cases r1
  rcases q1 with ⟨⟨xs, hq⟩, q⟩ | ⟨⟨xs, hq⟩, q⟩
  · obtain ⟨its, rv, p, hz⟩ := I1.list hq
    refine wpAny_pyIter_list p.isList ?_
    refine ⟨s1.heap.objs.size, [s1.heap.objs.size], _, _, H1, rfl, I1.kept (t' := s1.toks) fun b o e => Heap.get?_push_of_some _ e, turn_list a _, ⟨_, Heap.get?_push_size _ rfl, rfl, rfl⟩, fun b hb => ?_, q⟩
    have e : b = s1.heap.objs.size := by simpa using hb
    subst e
    exact I1.fpOk (Nat.le_refl _) (I1.hok.fresh (Nat.le_refl _))
  · obtain ⟨its, rv, p, hz⟩ := I1.tuple hq
    refine wpAny_pyIter_tuple (show s1.heap.IsTuple a its.toArray from p) ?_
    refine ⟨s1.heap.objs.size, [s1.heap.objs.size], _, _, H1, rfl, I1.kept (t' := s1.toks) fun b o e => Heap.get?_push_of_some _ e, turn_tuple a _, ⟨_, Heap.get?_push_size _ rfl, rfl, rfl⟩, fun b hb => ?_, q⟩
    have e : b = s1.heap.objs.size := by simpa using hb
    subst e
    exact I1.fpOk (Nat.le_refl _) (I1.hok.fresh (Nat.le_refl _))
/-- the items of what is walked, and what must stay as it is meanwhile -/
def itemsOf (S : MS) : D → Option (List D × (MS → Prop))
  | .lst ds => some (ds, noG)
  | .tup ds => some (ds, noG)
  | .ref a => match S a with
    | some (.lst ds) => some (ds, fun S' => S' a = some (.lst ds))
    | _ => none
  | _ => none
def wiSeq (wa : WE) : WI := fun ρ S Q => wa ρ S fun x ρ1 S1 => match itemsOf S1 x with
  | some (ds, g) => Q ds g ρ1 S1
  | none => False
theorem walkD_l {a : Addr} {vs : List V} {ds : List D} (h : Rd F a (.lst vs)) (r : Reps K F ds vs) : WalkD K F (Itl K a) ds noG where
  goes := fun i F' S' H' hi e x _ => ⟨vs, vs[i]'(by rw [← r.length]; exact hi), .inl (exf_rd x.fr (exf_rd e h)), by simp⟩
  stops := fun F' S' H' e x _ => ⟨vs, .inl (exf_rd x.fr (exf_rd e h)), by rw [r.length]; exact Nat.le_refl _⟩
  yields := fun i F' S' H' v H2 hi e x _ y => by
    obtain ⟨rfl, y⟩ := y
    obtain ⟨u, hu, ru⟩ := r.get (List.getElem?_eq_getElem hi)
    have := y vs (.inl (exf_rd x.fr (exf_rd e h)))
    rw [hu] at this
    cases this
    exact ⟨_, F', List.getElem?_eq_getElem hi, ExF.refl _, x, ru.up e⟩
theorem walkD_t {a : Addr} {vs : List V} {ds : List D} (h : SqT K F a vs) (r : Reps K F ds vs) : WalkD K F (Itt K a) ds noG where
  goes := fun i F' S' H' hi e x _ => ⟨vs, vs[i]'(by rw [← r.length]; exact hi), exf_t x.fr (exf_t e h), by simp⟩
  stops := fun F' S' H' e x _ => ⟨vs, exf_t x.fr (exf_t e h), by rw [r.length]; exact Nat.le_refl _⟩
  yields := fun i F' S' H' v H2 hi e x _ y => by
    obtain ⟨rfl, y⟩ := y
    obtain ⟨u, hu, ru⟩ := r.get (List.getElem?_eq_getElem hi)
    have := y vs (exf_t x.fr (exf_t e h))
    rw [hu] at this
    cases this
    exact ⟨_, F', List.getElem?_eq_getElem hi, ExF.refl _, x, ru.up e⟩
theorem walkD_m {a : Addr} {ds : List D} : WalkD K F (Itl K a) ds (fun S' => S' a = some (.lst ds)) where
  goes := fun i F' S' H' hi e x g => by
    obtain ⟨_, vs, hv, r⟩ := x.st a _ g
    exact ⟨vs, vs[i]'(by rw [← r.length]; exact hi), SqL.of hv, by simp⟩
  stops := fun F' S' H' e x g => by
    obtain ⟨_, vs, hv, r⟩ := x.st a _ g
    exact ⟨vs, SqL.of hv, by rw [r.length]; exact Nat.le_refl _⟩
  yields := fun i F' S' H' v H2 hi e x g y => by
    obtain ⟨rfl, y⟩ := y
    obtain ⟨_, vs, hv, r⟩ := x.st a _ g
    obtain ⟨u, hu, ru⟩ := r.get (List.getElem?_eq_getElem hi)
    have := y vs (SqL.of hv)
    rw [hu] at this
    cases this
    exact ⟨_, F', List.getElem?_eq_getElem hi, ExF.refl _, x, ru⟩
theorem ri_seq (h : RE K L ta wa) : RI K L (iSeq K ta) (wiSeq wa) := by
  intro F ρ S σ H Q R m q k
  refine h F ρ S σ H _ _ m q fun x H1 dx ρ1 S1 F1 e1 m1 r1 q1 => ?_
  cases r1 with
  | lst h1 h2 => exact ⟨_, rfl, .inl ⟨⟨_, .inl (exf_rd m1.fs.fr h1)⟩, k _ H1 _ _ ρ1 S1 F1 e1 m1 (walkD_l h1 h2) q1⟩⟩
  | tup h1 h2 => exact ⟨_, rfl, .inr ⟨⟨_, exf_t m1.fs.fr h1.sq⟩, k _ H1 _ _ ρ1 S1 F1 e1 m1 (walkD_t h1.sq h2) q1⟩⟩
  | wtup h1 h2 => exact q1.elim
  | ref a =>
    have q1 : match (match S1 a with
      | some (.lst ds) => some (ds, fun S' : MS => S' a = some (.lst ds))
      | _ => none) with
      | some (ds, g) => Q ds g ρ1 S1
      | none => False := q1
    cases e : S1 a with
    | none => rw [e] at q1; exact q1.elim
    | some m =>
      rw [e] at q1
      cases m <;> first | exact q1.elim | skip
      obtain ⟨_, vs, hv, r⟩ := m1.fs.st a _ e
      exact ⟨_, rfl, .inl ⟨⟨vs, SqL.of hv⟩, k _ H1 _ _ ρ1 S1 F1 e1 m1 walkD_m q1⟩⟩
  | non => exact q1.elim
  | bl b => exact q1.elim
  | int i => exact q1.elim
  | str s => exact q1.elim
  | dic _ _ _ => exact q1.elim
  | obj _ _ _ => exact q1.elim
theorem di_seq {tg : Expr} (h : DE X L a ta wa) : DI X L tg a (iSeq X.K ta) (wiSeq wa) := ⟨pi_seq h.pe, ri_seq h.re⟩
/-- a range -/
def rangeD (lo : Int) (n : Nat) : List D := (List.range n).map fun i => D.int (lo + (i : Nat))
theorem rangeD_length (lo : Int) (n : Nat) : (rangeD lo n).length = n := by simp [rangeD]
theorem rangeD_get {lo : Int} {n i : Nat} (h : i < n) : (rangeD lo n)[i]? = some (.int (lo + (i : Nat))) := by simp [rangeD, h]
theorem walkD_r {lo : Int} {n : Nat} : WalkD K F (Itr lo n) (rangeD lo n) noG where
  goes := fun i F' S' H' hi e x _ => by rw [rangeD_length] at hi; exact hi
  stops := fun F' S' H' e x _ => by rw [rangeD_length]; exact Nat.le_refl _
  yields := fun i F' S' H' v H2 hi e x _ y => by
    rw [rangeD_length] at hi
    obtain ⟨rfl, rfl⟩ := y
    exact ⟨_, F', rangeD_get hi, ExF.refl _, x, .int _⟩
def wiRng1 (wr : WA) : WI := fun ρ S Q => wr ρ S fun ds ρ1 S1 => ∃ j : Int, ds = [.int j] ∧ (-(2 ^ 62) ≤ j ∧ j < 2 ^ 62) ∧ Q (rangeD 0 j.toNat) noG ρ1 S1
def wiRng2 (wr : WA) : WI := fun ρ S Q => wr ρ S fun ds ρ1 S1 => ∃ i j : Int, ds = [.int i, .int j] ∧ (-(2 ^ 62) ≤ i ∧ i < 2 ^ 62 ∧ -(2 ^ 62) ≤ j ∧ j < 2 ^ 62) ∧ Q (rangeD i (j - i).toNat) noG ρ1 S1
theorem di_range1 {tg : Expr} (hg : Gl X "range") (hm : X.mg "range" = none) (ha : DA X L [a] t wr) (hs : starEach [a] X.env = [(false, eval a X.env)] := by rfl) : DI X L tg (.Call (.Name "range" p) [a] [] pos) (iRng1 t) (wiRng1 wr) :=
  ⟨pi_range1 hg hm ha.pa hs, fun F ρ S σ H Q R m q k => ha.ra F ρ S σ H _ _ m q fun vs H1 ds ρ1 S1 F1 e1 m1 r1 ⟨j, e, ⟨h1, h2⟩, q1⟩ => by
    subst e
    cases r1 with
    | cons r1 r2 =>
      cases r1
      cases r2
      exact ⟨j, rfl, h1, h2, k _ H1 _ _ ρ1 S1 F1 e1 m1 walkD_r q1⟩⟩
theorem di_range2 {tg : Expr} (hg : Gl X "range") (hm : X.mg "range" = none) (ha : DA X L [a, b] t wr) (hs : starEach [a, b] X.env = [(false, eval a X.env), (false, eval b X.env)] := by rfl) (hs2 : starEach [b] X.env = [(false, eval b X.env)] := by rfl) :
    DI X L tg (.Call (.Name "range" p) [a, b] [] pos) (iRng2 t) (wiRng2 wr) :=
  ⟨pi_range2 hg hm ha.pa hs hs2, fun F ρ S σ H Q R m q k => ha.ra F ρ S σ H _ _ m q fun vs H1 ds ρ1 S1 F1 e1 m1 r1 ⟨i, j, e, h1, q1⟩ => by
    subst e
    cases r1 with
    | cons r1 r2 =>
      cases r1
      cases r2 with
      | cons r2 r3 =>
        cases r2
        cases r3
        exact ⟨i, j, rfl, h1, k _ H1 _ _ ρ1 S1 F1 e1 m1 walkD_r q1⟩⟩
/-- list(range(..)), tuple(range(..)) -/
theorem rgV_D (i j : Int) : Reps K F (rangeD i (j - i).toNat) (rgV i j) := by
  unfold rangeD rgV
  induction (List.range (j - i).toNat) with
  | nil => exact .nil
  | cons x r ih => exact .cons (.int _) ih
def wLstRg1 (m : Bool) (wa : WE) : WE := fun ρ S Q => wa ρ S fun x ρ1 S1 => ∃ n, x = .int n ∧ RgOk 0 n ∧ newL m (rangeD 0 (n - 0).toNat) S1 fun d S2 => Q d ρ1 S2
theorem de_listRg1 (m : Bool) {p3 pos3 : Pos} (hc : X.calm = true) (hg : Gl X "list") (hm : X.mg "list" = none) (hg2 : Gl X "range") (hm2 : X.mg "range" = none) (h : DE X L a ta wa) (na : starEach [a] X.env = (false, eval a X.env) :: starEach [] X.env := by rfl)
    (na2 : starEach [.Call (.Name "range" p) [a] [] pos] X.env = (false, eval (.Call (.Name "range" p) [a] [] pos) X.env) :: starEach [] X.env := by rfl) :
    DE X L (.Call (.Name "list" p3) [.Call (.Name "range" p) [a] [] pos] [] pos3) (tLstRg (tRg1 ta)) (wLstRg1 m wa) :=
  ⟨pe_listRg hc hg hm (prg_1 hg2 hm2 h.pe na) na2, fun F ρ S σ H Q R mt q k => h.re F ρ S σ H _ _ mt q fun v H1 d ρ1 S1 F1 e1 m1 r1 ⟨n, e, ok, q1⟩ => by
    subst e
    cases r1
    exact ⟨n, rfl, ok, fun p hp => newL_ok (Q := fun d S2 => Q d ρ1 S2) (fun v H' d S' F' e x r q => k v H' d ρ1 S' F' (e1.trans e) (m1.step e x) r q) m1.fs (rgV_D 0 n) q1 hp⟩⟩
/-- y = [..] -/
theorem ds_setLc (mu : Bool) (i : Nat) {y : Str} {py : Pos} {elt tg iter : Expr} {ifs : List Expr} {scope : Scope} {spos : Pos} {ti : TI} {wi : WI} {g : TG} {wg : WG} {tt : TT} {wt : WT} {te : TE} {we : WE} (own : List (Str × Nat)) (hc : X.calm = true) (hN : X.N.Nodup) (hi : DI X L tg iter ti wi) (ok : BlkOk X.N X.env.scope scope own)
    (hg : ∀ (s : Shared) (H : Hp) (C : Addr) (cl : List (Str × Addr)) (fp : List Addr), DG (X.blk s H scope (compEnvC scope cl C X.env) fp) L (own.map (·.2)) tg g wg) (ht : ∀ (s : Shared) (H : Hp) (C : Addr) (cl : List (Str × Addr)) (fp : List Addr), DTs (X.blk s H scope (compEnvC scope cl C X.env) fp) L ifs tt wt)
    (he : ∀ (s : Shared) (H : Hp) (C : Addr) (cl : List (Str × Addr)) (fp : List Addr), DE (X.blk s H scope (compEnvC scope cl C X.env) fp) L elt te we) (hs : ∀ x, foldedSetIterable iter X.env x = pure x := by intro _; rfl)
    (hy : X.N[i]? = some y := by rfl) (hyl : X.env.scope.names.lookup y = some .local := by rfl) (hsw : swapsWith (.ListComp elt [⟨tg, iter, ifs, 0⟩] scope pos) (some (.Name y py)) spos.line X.env = pure true := by exact sw_true rfl rfl rfl (by decide +kernel)) :
    DS X L (.Assign [.Name y py] (.ListComp elt [⟨tg, iter, ifs, 0⟩] scope pos) spos) (tAsg (tLc ti g tt te (own.map (·.2))) (gName i)) (wAsg (wLc mu (own.map (·.2)) wi wg wt we) (wgName i)) :=
  ⟨ps_setLc hc hN hy hyl hsw hi.pi ok (fun s H C cl fp => (hg s H C cl fp).pg) (fun s H C cl fp => (ht s H C cl fp).pts) (fun s H C cl fp => (he s H C cl fp).pe) hs,
    rs_asg (vs := [i]) (re_lc hi.ri (hg X.s_0 X.H_0 0 [] []).rg (ht X.s_0 X.H_0 0 [] []).rt (he X.s_0 X.H_0 0 [] []).re) (rg_name (List.mem_singleton.mpr rfl))⟩
end
end DL
/-! DL8: isinstance, enumerate, zip, sorted tuples, reversed slices. -/
namespace DL
open PySem PySem.Spec PyProof.Rows L2
/-! ### isinstance, built-in classes -/
inductive BT where
  | int | bool | str | tuple | list | dict
def BT.nm : BT → String
  | .int => "int" | .bool => "bool" | .str => "str" | .tuple => "tuple" | .list => "list" | .dict => "dict"
def isK : BT → D → Bool
  | .int, .int _ => true
  | .int, .bl _ => true
  | .bool, .bl _ => true
  | .str, .str _ => true
  | .tuple, .tup _ => true
  | .list, .lst _ => true
  | .dict, .dic _ _ => true
  | _, _ => false
/-- no instance, no address -/
def plD : D → Bool
  | .obj _ _ _ => false
  | .ref _ => false
  | .wtup _ => false
  | _ => true
def tyNm : D → String
  | .non => "NoneType" | .bl _ => "bool" | .int _ => "int" | .str _ => "str" | .tup _ => "tuple" | .lst _ => "list" | .dic _ _ => "dict" | _ => "object"
section
variable {K : PySem.W.Frag} {X : Cx} {F H : Hp} {S : MS} {L : Lk} {a b c e o : Expr} {es : List Expr} {ta tb tc to : TE} {wa wb wc wo : WE} {t : TA} {wr : WA} {pos p2 p apos cpos : Pos}
theorem tyX_of {d : D} {v : V} (h : RepT K F H d v) (pl : plD d = true) : TyX K H v (.type (tyNm d)) := by
  cases d <;> first | exact absurd pl Bool.false_ne_true | skip
  · rw [repT_non h]; exact .base .non
  · rw [repT_bl h]; exact .base (.bl _)
  · rw [repT_int h]; exact .base (.int _)
  · rw [repT_str h]; exact .base (.str _)
  · obtain ⟨a, vs, rfl, h1, _⟩ := h
    rcases h1 with (h1 | ⟨o, h1⟩) | ⟨o, its, n, hk, hc, _⟩
    · exact .base (.tup h1)
    · exact .fTuple h1
    · exact .kTuple hk hc
  · obtain ⟨a, vs, rfl, h1, _⟩ := h
    rcases h1 with h1 | ⟨o, h1⟩
    · exact .base (.lst h1)
    · exact .base (.frz h1)
  · obtain ⟨a, kvs, rfl, h1, _⟩ := h
    exact .base (.dK h1)
def sk : D → D
  | .bl _ => .bl true
  | .int _ => .int 0
  | .str _ => .str ⟨#[]⟩
  | .tup _ => .tup []
  | .lst _ => .lst []
  | .dic _ _ => .dic [] []
  | _ => .non
theorem kit_known (T : BT) (d : D) (pl : plD d = true) : PySem.W.kitOne K (.type (tyNm d)) (.type T.nm) = some (isK T d) := by
  have h0 : kitB "NoneType" T.nm = some (isK T .non) := by cases T <;> decide +kernel
  have h1 : kitB "bool" T.nm = some (isK T (.bl true)) := by cases T <;> decide +kernel
  have h2 : kitB "int" T.nm = some (isK T (.int 0)) := by cases T <;> decide +kernel
  have h3 : kitB "str" T.nm = some (isK T (.str ⟨#[]⟩)) := by cases T <;> decide +kernel
  have h4 : kitB "tuple" T.nm = some (isK T (.tup [])) := by cases T <;> decide +kernel
  have h5 : kitB "list" T.nm = some (isK T (.lst [])) := by cases T <;> decide +kernel
  have h6 : kitB "dict" T.nm = some (isK T (.dic [] [])) := by cases T <;> decide +kernel
  have e2 : isK T d = isK T (sk d) := by cases d <;> cases T <;> rfl
  rw [e2]
  refine kit_ty ?_
  cases d <;> first | exact absurd pl Bool.false_ne_true | exact h0 | exact h1 | exact h2 | exact h3 | exact h4 | exact h5 | exact h6
def wIsi (T : BT) (wa : WE) : WE := fun ρ S Q => wa ρ S fun x ρ1 S1 => plD (rd S1 x) = true ∧ Q (.bl (isK T (rd S1 x))) ρ1 S1
theorem re_isi (T : BT) (h : RE K L ta wa) : RE K L (tCB (rIsi K) (tCons ta (tCons (tC (.ty T.nm)) tNil))) (wIsi T wa) := by
  intro F ρ S σ H Q R m q k
  refine h F ρ S σ H _ _ m q fun x H1 dx ρ1 S1 F1 e1 m1 r1 ⟨pl, q1⟩ => ?_
  have rt := rd_ok m1.fs r1
  exact ⟨x, .ty T.nm, .type (tyNm (rd S1 dx)), .type T.nm, _, rfl, .ty _, tyX_of rt pl, kit_known T _ pl, k _ H1 _ ρ1 S1 F1 e1 m1 (.bl _) q1⟩
theorem bty (T : BT) : bootBuiltins (Str.ofString T.nm) = some (.type T.nm) := by cases T <;> decide +kernel
theorem de_isi (T : BT) {x : Str} {q1 : Pos} (hg : Gl X "isinstance") (hm : X.mg "isinstance" = none) (h : DE X L a ta wa) (hx : x = Str.ofString T.nm := by rfl) (hgx : Gl X x := by rfl) (hmx : X.mg x = none := by assumption) (hn : x ≠ "__name__" := by decide) (hdb : (x == ("__debug__" : Str)) = false := by decide)
    (he : starEach [a, .Name x q1] X.env = (false, eval a X.env) :: starEach [.Name x q1] X.env := by rfl) (he2 : starEach [.Name x q1] X.env = (false, eval (.Name x q1) X.env) :: starEach [] X.env := by rfl) (hpl : (backTo pos (starEach [.Name x q1] X.env)).any (·.1) = false := by rfl) :
    DE X L (.Call (.Name "isinstance" p) [a, .Name x q1] [] pos) (tCB (rIsi X.K) (tCons ta (tCons (tC (.ty T.nm)) tNil))) (wIsi T wa) := by
  subst hx
  exact ⟨pe_callB call_isi hg hm (by decide +kernel) (pa_cons h.pe (pa_cons (pe_bltn hgx hmx (bty T) rfl hn hdb) pa_nil he2) he) (by decide) (by decide) he hpl, re_isi T h.re⟩
def wIsi2 (T T2 : BT) (wa : WE) : WE := fun ρ S Q => wa ρ S fun x ρ1 S1 => plD (rd S1 x) = true ∧ Q (.bl (isK T (rd S1 x) || isK T2 (rd S1 x))) ρ1 S1
theorem re_isi2 (T T2 : BT) (h : RE K L ta wa) : RE K L (tCB (rIsiT K) (tCons ta (tCons (tTup (tCons (tC (.ty T.nm)) (tCons (tC (.ty T2.nm)) tNil))) tNil))) (wIsi2 T T2 wa) := by
  intro F ρ S σ H Q R m q k
  refine h F ρ S σ H _ _ m q fun x H1 dx ρ1 S1 F1 e1 m1 r1 ⟨pl, q1⟩ => ?_
  refine ⟨by show 2 ≤ sizeLine; decide, fun p hp => ?_⟩
  have fs2 := m1.fs.drop (o := .tup [.ty T.nm, .ty T2.nm]) hp
  have rt := rd_ok fs2 r1
  refine ⟨x, p, [.ty T.nm, .ty T2.nm], .type (tyNm (rd S1 dx)), [.type T.nm, .type T2.nm], _, rfl, upd_same, .cons (.ty _) (.cons (.ty _) .nil), tyX_of rt pl, ?_, k _ _ _ ρ1 S1 F1 e1 (m1.step (ExF.refl F1) fs2) (.bl _) q1⟩
  refine kitAny_cons (kit_known T _ pl) (fun e => ?_) fun e => by rw [e, Bool.true_or]
  refine kitAny_cons (kit_known T2 _ pl) (fun e2 => ?_) fun e2 => by rw [e2, Bool.or_true]
  rw [e, e2]
  exact kitAny_nil
theorem de_isi2 (T T2 : BT) {x y : Str} {q1 q2 q3 : Pos} {kt : Nat} (hg : Gl X "isinstance") (hm : X.mg "isinstance" = none) (h : DE X L a ta wa) (hx : x = Str.ofString T.nm := by rfl) (hy : y = Str.ofString T2.nm := by rfl) (hgx : Gl X x := by rfl) (hgy : Gl X y := by rfl) (hmx : X.mg x = none := by assumption) (hmy : X.mg y = none := by assumption)
    (hn : x ≠ "__name__" := by decide) (hdb : (x == ("__debug__" : Str)) = false := by decide) (hn2 : y ≠ "__name__" := by decide) (hdb2 : (y == ("__debug__" : Str)) = false := by decide)
    (he : starEach [a, .Tuple [.Name x q1, .Name y q2] kt q3] X.env = (false, eval a X.env) :: starEach [.Tuple [.Name x q1, .Name y q2] kt q3] X.env := by rfl)
    (he2 : starEach [.Tuple [.Name x q1, .Name y q2] kt q3] X.env = (false, eval (.Tuple [.Name x q1, .Name y q2] kt q3) X.env) :: starEach [] X.env := by rfl)
    (he3 : starEach [.Name x q1, .Name y q2] X.env = (false, eval (.Name x q1) X.env) :: starEach [.Name y q2] X.env := by rfl) (he4 : starEach [.Name y q2] X.env = (false, eval (.Name y q2) X.env) :: starEach [] X.env := by rfl)
    (hpl : (backTo pos (starEach [.Tuple [.Name x q1, .Name y q2] kt q3] X.env)).any (·.1) = false := by rfl) :
    DE X L (.Call (.Name "isinstance" p) [a, .Tuple [.Name x q1, .Name y q2] kt q3] [] pos) (tCB (rIsiT X.K) (tCons ta (tCons (tTup (tCons (tC (.ty T.nm)) (tCons (tC (.ty T2.nm)) tNil))) tNil))) (wIsi2 T T2 wa) := by
  subst hx hy
  exact ⟨pe_callB call_isiT hg hm (by decide +kernel) (pa_cons h.pe (pa_cons (pe_tup (pa_cons (pe_bltn hgx hmx (bty T) rfl hn hdb) (pa_cons (pe_bltn hgy hmy (bty T2) rfl hn2 hdb2) pa_nil he4) he3)) pa_nil he2) he) (by decide) (by decide) he hpl, re_isi2 T T2 h.re⟩
/-! ### enumerate -/
theorem meets_enumerate_newT (l : Addr) (items : Array Value) :
    Meets (Builtin.«enumerate.__new__» ⟨[.type "enumerate", .ref l], []⟩) (fun _ R s => s.heap.IsTuple l items ∧
      R (.ok (.ret (.ref (s.heap.push { cls := .type "tuple_iterator", data := .fields #[.ref l, .int 0 0] }).objs.size)))
        { s with heap := (s.heap.push { cls := .type "tuple_iterator", data := .fields #[.ref l, .int 0 0] }).push { cls := .type "enumerate", data := .fields #[.none, .bool false, .ref s.heap.objs.size, rawInt 0, .none, .none] } }) :=
  .of_wp fun prog w A R s h => by
    obtain ⟨hp, g, d, tk, os⟩ := s; obtain ⟨hl, h⟩ := h
    have hsub := sub_enumerate
    have q1 : ∀ {A' : Around} {E : Value → Shared → Prop} {Q : Value → Shared → Prop}, Q (.ref hp.objs.size) ⟨hp.push { cls := .type "tuple_iterator", data := .fields #[.ref l, .int 0 0] }, g, d, tk, os⟩ → wpAny (model prog w) A' (pyIter (.ref l)) Q E ⟨hp, g, d, tk, os⟩ :=
      fun q => wpAny_pyIter_tuple hl q
    wp_walk using q1
    refine wpAny_stack_any fun st => wpAny_pure ?_
    split
    · rename_i c _ _ _ _ _
      cases (c == Value.type "enumerate")
      · wp_walk using q1
        exact ⟨_, rfl, h⟩
      · wp_walk using q1
        exact ⟨_, rfl, h⟩
    · wp_walk using q1
      exact ⟨_, rfl, h⟩
theorem call_enumerate_tup {prog : Program} {w : World} {A : Around} {E : Value → Shared → Prop} {s : Shared} {l : Addr} {items : Array Value} {Q : Value → Shared → Prop} (hL : s.heap.IsTuple l items)
    (h : ∀ h', IsEnum h' (s.heap.objs.size + 1) s.heap.objs.size 0 .none → h'.IsTupleIter s.heap.objs.size l 0 → h'.objs.size = s.heap.objs.size + 2 →
      (∀ b o, s.heap.get? b = some o → h'.get? b = some o) → Q (.ref (s.heap.objs.size + 1)) { s with heap := h' }) :
    wpAny (model prog w) A (call (.type "enumerate") [.ref l]) Q E s := by
  refine callType_new F.called_enumerate (by decide) (F.typeCall_enumerate_1 _) (F.newCall_enumerate_1 _) (fun obj => F.args_object_init_2 obj _) F.entry_enumerate_new
    (meets_enumerate_newT l items) ⟨hL, ?_⟩
  have hz : (s.heap.push { cls := .type "tuple_iterator", data := .fields #[.ref l, .int 0 0] }).objs.size = s.heap.objs.size + 1 := Heap.size_push ..
  show _ ∧ _
  rw [hz]
  have he : IsEnum ((s.heap.push { cls := .type "tuple_iterator", data := .fields #[.ref l, .int 0 0] }).push
      { cls := .type "enumerate", data := .fields #[.none, .bool false, .ref s.heap.objs.size, rawInt 0, .none, .none] }) (s.heap.objs.size + 1) s.heap.objs.size 0 .none := by
    have := Heap.get?_push_size (s.heap.push { cls := .type "tuple_iterator", data := .fields #[.ref l, .int 0 0] })
      (o := { cls := .type "enumerate", data := .fields #[.none, .bool false, .ref s.heap.objs.size, rawInt 0, .none, .none] }) rfl
    rw [hz] at this; exact this
  refine ⟨⟨_, he, rfl⟩, h _ he ⟨_, Heap.get?_push_of_some _ (Heap.get?_push_size _ rfl), rfl, rfl⟩ (by rw [Heap.size_push, hz]) fun b o x => Heap.get?_push_of_some _ (Heap.get?_push_of_some _ x)⟩
/-- the tuple at a, each item in a new pair -/
def IteT (K : PySem.W.Frag) (a : Addr) : It :=
  ⟨fun i H => ∃ (xs : List V) (x : V), SqT K H a xs ∧ xs[i]? = some x, fun i H v H' => ∃ T x, v = .ref T ∧ H T = none ∧ H' = upd H T (.tup [.int (i : Nat), x]) ∧ ∀ xs, SqT K H a xs → xs[i]? = some x, fun i H => ∃ xs : List V, SqT K H a xs ∧ xs.length = i⟩
theorem turn_enumT {P : Program} {w : World} {K : PySem.W.Frag} {elts : List Expr} {kk : Nat} {tpos : Pos} (a e it : Addr) (hae : a ≠ it) (hae2 : e ≠ a) :
    Turn P w K (.Tuple elts kk tpos) (IteT K a) [e, it] e (fun i h => (∃ old, IsEnum h e it ((i : Nat) : Int) old) ∧ h.IsTupleIter it a i ∧ e ≠ it) where
  mem := by simp
  obj := fun i h st b hb => by
    obtain ⟨⟨old, he⟩, ⟨o, ho, hc, hd⟩, _⟩ := st
    have e' : b = e ∨ b = it := by simpa using hb
    rcases e' with z | z
    · rw [z]; exact ⟨_, he, fun v q => nomatch q⟩
    · rw [z]; exact ⟨o, ho, fun v q => by rw [hd] at q; cases q⟩
  keep := fun i h h' st k => let ⟨⟨old, he⟩, hi, hne⟩ := st; ⟨⟨old, k e (by simp) _ he⟩, hi.at fun o q => k it (by simp) o q, hne⟩
  item := by
    intro X hP hw hK hc i pins s σ H E I hf st hg
    subst hP hw hK
    obtain ⟨⟨old, he⟩, hit, hne⟩ := st
    obtain ⟨xs, x, hq, hx⟩ := hg
    obtain ⟨its, rv, p, hz⟩ := I.tuple hq
    obtain ⟨u, hu, ru⟩ := rv.get hx
    have hel : e < s.heap.objs.size := Heap.lt_size he
    have hil : it < s.heap.objs.size := by obtain ⟨_, q, _⟩ := hit; exact Heap.lt_size q
    have D := Draws.tuple (prog := X.prog) (w := X.w) (A := X.A.in1) (I.ok.hd hc) it a hae its.toArray
    have hi : i < its.toArray.size := by
      have := (List.getElem?_eq_some_iff.mp hx).1
      have := rv.length
      simp
      omega
    refine wpAny_pyNext_enum_itemD D he ⟨hit, p⟩ hi hne (by simp [hne, hae2]) fun y h' tk hy ho hst hT hsz hk => ?_
    have ey : y = u := by
      have h1 : its.toArray[i]? = some y := hy
      have h2 : its.toArray[i]? = some u := by simpa using hu
      rw [h1] at h2
      exact Option.some.inj h2
    subst ey
    refine ⟨_, rfl, wpAny_letOwnedTupleGo_enum (s := { s with heap := h', toks := tk + 1 }) ho fun h'' he' sb => ?_⟩
    have hT2 : h''.get? s.heap.objs.size = some { cls := .type "tuple", data := .seq #[.int i tk, y] } := (sb.2 _ (Nat.ne_of_gt hel)).trans hT
    have new : ObjOk X.prog X.w (upd H s.heap.objs.size (.tup [.int (i : Nat), x])) h'' s.heap.objs.size (.tup [.int (i : Nat), x]) :=
      ⟨by show 2 ≤ sizeLine; decide, [.int i tk, y], .cons ⟨_, rfl⟩ (.cons ru .nil), ⟨_, hT2, rfl, _, rfl⟩⟩
    have I1 : Inv X pins σ (upd H s.heap.objs.size (.tup [.int (i : Nat), x])) { s with heap := h'', toks := tk + 1 } :=
      I.turnedNew (ch := [e, it]) (fun b ob hb q => (sb.2 b (fun z => hb (by simp [z]))).trans (hk b ob (fun z => hb (by simp [z])) (fun z => hb (by simp [z])) q)) hf (Nat.le_refl _) new
    refine ⟨.ref s.heap.objs.size, _, I1, rfl, ⟨_, x, rfl, I.hok.fresh (Nat.le_refl _), rfl, fun ys hy => by rw [I.tuple_inj hy hq]; exact hx⟩, ⟨⟨y, ?_⟩, hst.1.at fun o q => (sb.2 it (Ne.symm hne)).trans q, hne⟩, fun b hb => ?_⟩
    · have e1 : ((i + 1 : Nat) : Int) = (i : Int) + 1 := by omega
      rw [e1]; exact he'
    · have hb' : b < s.heap.objs.size := by
        have e' : b = e ∨ b = it := by simpa using hb
        rcases e' with z | z
        · rw [z]; exact hel
        · rw [z]; exact hil
      rw [upd_ne (Nat.ne_of_lt hb')]
      exact (hf b hb).1
  done := by
    intro X hP hw hK hc i pins s σ H E I hf st hg
    subst hP hw hK
    obtain ⟨⟨old, he⟩, hit, hne⟩ := st
    obtain ⟨xs, hq, hx⟩ := hg
    obtain ⟨its, rv, p, hz⟩ := I.tuple hq
    obtain ⟨f0, f1, f2, f3, f4, f5⟩ := hf it (by simp)
    have hl := rv.length
    have D := Draws.tuple (prog := X.prog) (w := X.w) (A := X.A.in1) (I.ok.hd hc) it a hae its.toArray
    have en : i = its.toArray.size := by
      simp
      omega
    subst en
    exact wpAny_pyNext_enum_endD D he ⟨hit, p⟩ fun h' eb => ⟨rfl, I.turned (t' := s.toks) (fun b o hb q => eb b o hb q) f0 f1 f3 f4 f5⟩
  self := fun A i s Q E st h => let ⟨⟨_, he⟩, _⟩ := st; wpAny_pyIter_enum he h
/-- enumerate of a list or a tuple -/
def iEnumA (K : PySem.W.Frag) (ta : TA) : TI := fun σ H R => ta σ H fun vs H1 => ∃ a, vs = [.ref a] ∧ (((∃ xs, SqL K H1 a xs) ∧ R (Ite K a) H1) ∨ ((∃ xs, SqT K H1 a xs) ∧ R (IteT K a) H1))
theorem pi_enumA {tpos : Pos} {elts : List Expr} {kk : Nat} (hg : Gl X "enumerate") (hm : X.mg "enumerate" = none) (ha : PA X [e] t) (hs : starEach [e] X.env = [(false, eval e X.env)] := by rfl) :
    PI X (.Tuple elts kk tpos) (.Call (.Name "enumerate" p) [e] [] pos) (iEnumA X.K t) := by
  refine ⟨fun pins s σ H R I h => ?_⟩
  refine Call_ (ld_blt I hg hm boot_enumerate (PyProof.Rows.callWith_type1 (thn (ha.run pos pins s σ H _ I h) fun us s1 ⟨vs, H1, I1, r1, q1⟩ => ?_) hs rfl))
  obtain ⟨a, ex, q1⟩ := q1
  subst ex
  cases r1 with
  | cons r rr =>
    cases rr
    cases r
    rcases q1 with ⟨⟨xs, hq⟩, q⟩ | ⟨⟨xs, hq⟩, q⟩
    · obtain ⟨its, rv, p', hz⟩ := I1.list hq
      refine call_enumerate_list p'.isList fun h' he hit hsz hk => wpAny_pyIter_enum he ?_
      have I2 : Inv X pins σ H1 { s1 with heap := h' } := I1.kept (t' := s1.toks) hk
      refine ⟨s1.heap.objs.size + 1, [s1.heap.objs.size + 1, s1.heap.objs.size], _, _, H1, rfl, I2, turn_enum a (s1.heap.objs.size + 1) s1.heap.objs.size, ⟨⟨.none, he⟩, hit, Nat.succ_ne_self _⟩, fun b hb => ?_, q⟩
      have e' : b = s1.heap.objs.size + 1 ∨ b = s1.heap.objs.size := by simpa using hb
      have hle : s1.heap.objs.size ≤ b := by
        rcases e' with z | z
        · rw [z]; exact Nat.le_add_right _ _
        · rw [z]; exact Nat.le_refl _
      exact I1.fpOk hle (I1.hok.fresh hle)
    · obtain ⟨its, rv, p', hz⟩ := I1.tuple hq
      have hlt : a < s1.heap.objs.size := p'.lt
      refine call_enumerate_tup (show s1.heap.IsTuple a its.toArray from p') fun h' he hit hsz hk => wpAny_pyIter_enum he ?_
      have I2 : Inv X pins σ H1 { s1 with heap := h' } := I1.kept (t' := s1.toks) hk
      refine ⟨s1.heap.objs.size + 1, [s1.heap.objs.size + 1, s1.heap.objs.size], _, _, H1, rfl, I2, turn_enumT a (s1.heap.objs.size + 1) s1.heap.objs.size (Nat.ne_of_lt hlt) (Nat.ne_of_gt (Nat.lt_succ_of_lt hlt)), ⟨⟨.none, he⟩, hit, Nat.succ_ne_self _⟩, fun b hb => ?_, q⟩
      have e' : b = s1.heap.objs.size + 1 ∨ b = s1.heap.objs.size := by simpa using hb
      have hle : s1.heap.objs.size ≤ b := by
        rcases e' with z | z
        · rw [z]; exact Nat.le_add_right _ _
        · rw [z]; exact Nat.le_refl _
      exact I1.fpOk hle (I1.hok.fresh hle)
def enumD (ds : List D) : List D := (List.range ds.length).map fun i => D.wtup [.int (i : Nat), ds.getD i .non]
theorem enumD_length (ds : List D) : (enumD ds).length = ds.length := by simp [enumD]
theorem enumD_get {ds : List D} {i : Nat} {d : D} (h : ds[i]? = some d) : (enumD ds)[i]? = some (.wtup [.int (i : Nat), d]) := by
  have hi := (List.getElem?_eq_some_iff.mp h).1
  simp [enumD, hi, (List.getElem?_eq_some_iff.mp h).2]
theorem pairF {F1 H1 H2 : Hp} {S1 : MS} (x : FS K F1 S1 H1) {T : Addr} {u v : V} {d1 d2 : D} (hT : H1 T = none) (e2 : H2 = upd H1 T (.tup [u, v])) (r1 : Rep K F1 d1 u) (r2 : Rep K F1 d2 v) : ∃ F2, ExF F1 F2 ∧ FS K F2 S1 H2 ∧ Rep K F2 (.wtup [d1, d2]) (.ref T) := by
  subst e2
  have fT := (x.notS hT).2
  have ex : ExF F1 (upd F1 T (.tup [u, v])) := ExF.new fT
  exact ⟨_, ex, x.grow hT, .wtup (SqT.of upd_same) (.cons (r1.up ex) (.cons (r2.up ex) .nil))⟩
theorem walkD_el {a : Addr} {vs : List V} {ds : List D} (h : Rd F a (.lst vs)) (r : Reps K F ds vs) : WalkD K F (Ite K a) (enumD ds) noG where
  goes := fun i F' S' H' hi e x _ => by
    rw [enumD_length] at hi
    exact ⟨vs, vs[i]'(by rw [← r.length]; exact hi), .inl (exf_rd x.fr (exf_rd e h)), by simp⟩
  stops := fun F' S' H' e x _ => ⟨vs, .inl (exf_rd x.fr (exf_rd e h)), by rw [enumD_length, r.length]; exact Nat.le_refl _⟩
  yields := fun i F' S' H' v H2 hi e x _ y => by
    rw [enumD_length] at hi
    obtain ⟨T, u, rfl, hT, eH, y⟩ := y
    obtain ⟨u', hu, ru⟩ := r.get (List.getElem?_eq_getElem hi)
    have := y vs (.inl (exf_rd x.fr (exf_rd e h)))
    rw [hu] at this
    cases this
    obtain ⟨F2, h1, h2, h3⟩ := pairF x hT eH (.int (i : Nat)) (ru.up e)
    exact ⟨_, F2, enumD_get (List.getElem?_eq_getElem hi), h1, h2, h3⟩
theorem walkD_et {a : Addr} {vs : List V} {ds : List D} (h : SqT K F a vs) (r : Reps K F ds vs) : WalkD K F (IteT K a) (enumD ds) noG where
  goes := fun i F' S' H' hi e x _ => by
    rw [enumD_length] at hi
    exact ⟨vs, vs[i]'(by rw [← r.length]; exact hi), exf_t x.fr (exf_t e h), by simp⟩
  stops := fun F' S' H' e x _ => ⟨vs, exf_t x.fr (exf_t e h), by rw [enumD_length, r.length]⟩
  yields := fun i F' S' H' v H2 hi e x _ y => by
    rw [enumD_length] at hi
    obtain ⟨T, u, rfl, hT, eH, y⟩ := y
    obtain ⟨u', hu, ru⟩ := r.get (List.getElem?_eq_getElem hi)
    have := y vs (exf_t x.fr (exf_t e h))
    rw [hu] at this
    cases this
    obtain ⟨F2, h1, h2, h3⟩ := pairF x hT eH (.int (i : Nat)) (ru.up e)
    exact ⟨_, F2, enumD_get (List.getElem?_eq_getElem hi), h1, h2, h3⟩
theorem walkD_em {a : Addr} {ds : List D} : WalkD K F (Ite K a) (enumD ds) (fun S' => S' a = some (.lst ds)) where
  goes := fun i F' S' H' hi e x g => by
    rw [enumD_length] at hi
    obtain ⟨_, vs, hv, r⟩ := x.st a _ g
    exact ⟨vs, vs[i]'(by rw [← r.length]; exact hi), SqL.of hv, by simp⟩
  stops := fun F' S' H' e x g => by
    obtain ⟨_, vs, hv, r⟩ := x.st a _ g
    exact ⟨vs, SqL.of hv, by rw [enumD_length, r.length]; exact Nat.le_refl _⟩
  yields := fun i F' S' H' v H2 hi e x g y => by
    rw [enumD_length] at hi
    obtain ⟨T, u, rfl, hT, eH, y⟩ := y
    obtain ⟨_, vs, hv, r⟩ := x.st a _ g
    obtain ⟨u', hu, ru⟩ := r.get (List.getElem?_eq_getElem hi)
    have := y vs (SqL.of hv)
    rw [hu] at this
    cases this
    obtain ⟨F2, h1, h2, h3⟩ := pairF x hT eH (.int (i : Nat)) ru
    exact ⟨_, F2, enumD_get (List.getElem?_eq_getElem hi), h1, h2, h3⟩
def wiEnum (wr : WA) : WI := fun ρ S Q => wr ρ S fun xs ρ1 S1 => match xs with
  | [x] => (match itemsOf S1 x with
    | some (ds, g) => Q (enumD ds) g ρ1 S1
    | none => False)
  | _ => False
theorem ri_enum (h : RA K L t wr) : RI K L (iEnumA K t) (wiEnum wr) := by
  intro F ρ S σ H Q R m q k
  refine h F ρ S σ H _ _ m q fun vs H1 xs ρ1 S1 F1 e1 m1 rs q1 => ?_
  cases rs with
  | nil => exact q1.elim
  | cons r1 r2 =>
    cases r2 with
    | cons _ _ => exact q1.elim
    | nil =>
      cases r1 with
      | lst h1 h2 => exact ⟨_, rfl, .inl ⟨⟨_, .inl (exf_rd m1.fs.fr h1)⟩, k _ H1 _ _ ρ1 S1 F1 e1 m1 (walkD_el h1 h2) q1⟩⟩
      | tup h1 h2 => exact ⟨_, rfl, .inr ⟨⟨_, exf_t m1.fs.fr h1.sq⟩, k _ H1 _ _ ρ1 S1 F1 e1 m1 (walkD_et h1.sq h2) q1⟩⟩
      | wtup h1 h2 => exact q1.elim
      | ref a =>
        have q1 : match (match S1 a with
          | some (.lst ds) => some (ds, fun S' : MS => S' a = some (.lst ds))
          | _ => none) with
          | some (ds, g) => Q (enumD ds) g ρ1 S1
          | none => False := q1
        cases e : S1 a with
        | none => rw [e] at q1; exact q1.elim
        | some m =>
          rw [e] at q1
          cases m <;> first | exact q1.elim | skip
          obtain ⟨_, vs, hv, r⟩ := m1.fs.st a _ e
          exact ⟨_, rfl, .inl ⟨⟨vs, SqL.of hv⟩, k _ H1 _ _ ρ1 S1 F1 e1 m1 walkD_em q1⟩⟩
      | non => exact q1.elim
      | bl b => exact q1.elim
      | int i => exact q1.elim
      | str s => exact q1.elim
      | dic _ _ _ => exact q1.elim
      | obj _ _ _ => exact q1.elim
theorem di_enum {tpos : Pos} {elts : List Expr} {kk : Nat} (hg : Gl X "enumerate") (hm : X.mg "enumerate" = none) (ha : DA X L [e] t wr) (hs : starEach [e] X.env = [(false, eval e X.env)] := by rfl) :
    DI X L (.Tuple elts kk tpos) (.Call (.Name "enumerate" p) [e] [] pos) (iEnumA X.K t) (wiEnum wr) := ⟨pi_enumA hg hm ha.pa hs, ri_enum ha.ra⟩
/-- zip of two lists, of two tuples -/
def zipD (xs ys : List D) : List D := (List.range (min xs.length ys.length)).map fun i => D.wtup [xs.getD i .non, ys.getD i .non]
theorem zipD_length (xs ys : List D) : (zipD xs ys).length = min xs.length ys.length := by simp [zipD]
theorem zipD_get {xs ys : List D} {i : Nat} {d e : D} (h : xs[i]? = some d) (h2 : ys[i]? = some e) : (zipD xs ys)[i]? = some (.wtup [d, e]) := by
  have hi := (List.getElem?_eq_some_iff.mp h).1
  have hj := (List.getElem?_eq_some_iff.mp h2).1
  have : i < min xs.length ys.length := by omega
  simp [zipD, this, List.getD, h, h2]
theorem walkD_zl {a b : Addr} {vs us : List V} {ds es : List D} (h : Rd F a (.lst vs)) (r : Reps K F ds vs) (h' : Rd F b (.lst us)) (r' : Reps K F es us) : WalkD K F (Itz K a b) (zipD ds es) noG where
  goes := fun i F' S' H' hi e x _ => by
    rw [zipD_length] at hi
    have l1 := r.length
    have l2 := r'.length
    exact ⟨vs, us, vs[i]'(by omega), us[i]'(by omega), .inl (exf_rd x.fr (exf_rd e h)), .inl (exf_rd x.fr (exf_rd e h')), by simp, by simp⟩
  stops := fun F' S' H' e x _ => ⟨vs, us, .inl (exf_rd x.fr (exf_rd e h)), .inl (exf_rd x.fr (exf_rd e h')), by
    rw [zipD_length, r.length, r'.length]
    omega⟩
  yields := fun i F' S' H' v H2 hi e x _ y => by
    rw [zipD_length] at hi
    obtain ⟨T, u, w, rfl, hT, eH, y1, y2⟩ := y
    have hi1 : i < ds.length := by omega
    have hi2 : i < es.length := by omega
    obtain ⟨u', hu, ru⟩ := r.get (List.getElem?_eq_getElem hi1)
    obtain ⟨w', hw, rw'⟩ := r'.get (List.getElem?_eq_getElem hi2)
    have z1 := y1 vs (.inl (exf_rd x.fr (exf_rd e h)))
    rw [hu] at z1
    cases z1
    have z2 := y2 us (.inl (exf_rd x.fr (exf_rd e h')))
    rw [hw] at z2
    cases z2
    obtain ⟨F2, h1, h2, h3⟩ := pairF x hT eH (ru.up e) (rw'.up e)
    exact ⟨_, F2, zipD_get (List.getElem?_eq_getElem hi1) (List.getElem?_eq_getElem hi2), h1, h2, h3⟩
theorem walkD_zt {a b : Addr} {vs us : List V} {ds es : List D} (h : SqT K F a vs) (r : Reps K F ds vs) (h' : SqT K F b us) (r' : Reps K F es us) : WalkD K F (RZ.ItzT K a b) (zipD ds es) noG where
  goes := fun i F' S' H' hi e x _ => by
    rw [zipD_length] at hi
    have l1 := r.length
    have l2 := r'.length
    exact ⟨vs, us, vs[i]'(by omega), us[i]'(by omega), exf_t x.fr (exf_t e h), exf_t x.fr (exf_t e h'), by simp, by simp⟩
  stops := fun F' S' H' e x _ => ⟨vs, us, exf_t x.fr (exf_t e h), exf_t x.fr (exf_t e h'), by
    rw [zipD_length, r.length, r'.length]
    omega⟩
  yields := fun i F' S' H' v H2 hi e x _ y => by
    rw [zipD_length] at hi
    obtain ⟨T, u, w, rfl, hT, eH, y1, y2⟩ := y
    have hi1 : i < ds.length := by omega
    have hi2 : i < es.length := by omega
    obtain ⟨u', hu, ru⟩ := r.get (List.getElem?_eq_getElem hi1)
    obtain ⟨w', hw, rw'⟩ := r'.get (List.getElem?_eq_getElem hi2)
    have z1 := y1 vs (exf_t x.fr (exf_t e h))
    rw [hu] at z1
    cases z1
    have z2 := y2 us (exf_t x.fr (exf_t e h'))
    rw [hw] at z2
    cases z2
    obtain ⟨F2, h1, h2, h3⟩ := pairF x hT eH (ru.up e) (rw'.up e)
    exact ⟨_, F2, zipD_get (List.getElem?_eq_getElem hi1) (List.getElem?_eq_getElem hi2), h1, h2, h3⟩
def wiZip (wr : WA) : WI := fun ρ S Q => wr ρ S fun xs ρ1 S1 => match xs with
  | [.lst ds, .lst es] => Q (zipD ds es) noG ρ1 S1
  | [.tup ds, .tup es] => Q (zipD ds es) noG ρ1 S1
  | _ => False
theorem ri_zip (h : RA K L t wr) : RI K L (RZ.iZipA K t) (wiZip wr) := by
  intro F ρ S σ H Q R m q k
  refine h F ρ S σ H _ _ m q fun vs H1 xs ρ1 S1 F1 e1 m1 rs q1 => ?_
  cases rs with
  | nil => exact q1.elim
  | cons r1 r2 =>
    cases r2 with
    | nil => cases r1 <;> exact q1.elim
    | cons r2 r3 =>
      cases r3 with
      | cons _ _ => cases r1 <;> cases r2 <;> exact q1.elim
      | nil =>
        cases r1 <;> cases r2 <;> first | exact q1.elim | skip
        · rename_i h1 h2 _ _ _ h3 h4
          exact ⟨_, _, _, _, rfl, .inr ⟨exf_t m1.fs.fr h1.sq, exf_t m1.fs.fr h3.sq, k _ H1 _ _ ρ1 S1 F1 e1 m1 (walkD_zt h1.sq h2 h3.sq h4) q1⟩⟩
        · rename_i h1 h2 _ _ _ h3 h4
          exact ⟨_, _, _, _, rfl, .inl ⟨.inl (exf_rd m1.fs.fr h1), .inl (exf_rd m1.fs.fr h3), k _ H1 _ _ ρ1 S1 F1 e1 m1 (walkD_zl h1 h2 h3 h4) q1⟩⟩
theorem di_zip {e2 : Expr} {tpos : Pos} {elts : List Expr} {kk : Nat} (hg : Gl X "zip") (hm : X.mg "zip" = none) (ha : DA X L [e, e2] t wr)
    (hs : starEach [e, e2] X.env = (false, eval e X.env) :: starEach [e2] X.env := by rfl) (hpl : (backTo pos (starEach [e2] X.env)).any (·.1) = false := by rfl) :
    DI X L (.Tuple elts kk tpos) (.Call (.Name "zip" p) [e, e2] [] pos) (RZ.iZipA X.K t) (wiZip wr) := ⟨RZ.pi_zipA hg hm ha.pa hs hpl, ri_zip ha.ra⟩
end
end DL
/-! DL9: reading a reading; loops and comprehensions by rules; things known by what stays true of them. -/
namespace DL
open PySem PySem.Spec PyProof.Rows L2
theorem ex_bl_iff {b : Bool} {p : Bool → Prop} : (∃ c, D.bl b = .bl c ∧ p c) ↔ p b := ⟨fun ⟨c, e, h⟩ => by cases e; exact h, fun h => ⟨b, rfl, h⟩⟩
theorem ex_int_iff {b : Int} {p : Int → Prop} : (∃ c, D.int b = .int c ∧ p c) ↔ p b := ⟨fun ⟨c, e, h⟩ => by cases e; exact h, fun h => ⟨b, rfl, h⟩⟩
theorem ex_int1_iff {b : Int} {p : Int → Prop} : (∃ c, [D.int b] = [.int c] ∧ p c) ↔ p b := ⟨fun ⟨c, e, h⟩ => by cases e; exact h, fun h => ⟨b, rfl, h⟩⟩
theorem ex_int2_iff {a b : Int} {p : Int → Int → Prop} : (∃ c d, [D.int a, D.int b] = [.int c, .int d] ∧ p c d) ↔ p a b := ⟨fun ⟨c, d, e, h⟩ => by cases e; exact h, fun h => ⟨a, b, rfl, h⟩⟩
theorem ex_pair_iff {a b : D} {p : D → D → Prop} : (∃ x y, [a, b] = [x, y] ∧ p x y) ↔ p a b := ⟨fun ⟨x, y, e, h⟩ => by cases e; exact h, fun h => ⟨a, b, rfl, h⟩⟩
theorem ex_tup_iff {b : List D} {p : List D → Prop} : (∃ c, D.tup b = .tup c ∧ p c) ↔ p b := ⟨fun ⟨c, e, h⟩ => by cases e; exact h, fun h => ⟨b, rfl, h⟩⟩
theorem rd_non {S : MS} : rd S .non = .non := rfl
theorem rd_bl {S : MS} {b : Bool} : rd S (.bl b) = .bl b := rfl
theorem rd_int {S : MS} {b : Int} : rd S (.int b) = .int b := rfl
theorem rd_str {S : MS} {b : Str} : rd S (.str b) = .str b := rfl
theorem rd_tup {S : MS} {b : List D} : rd S (.tup b) = .tup b := rfl
theorem rd_lst {S : MS} {b : List D} : rd S (.lst b) = .lst b := rfl
theorem rd_dic {S : MS} {k : List Key} {b : List D} : rd S (.dic k b) = .dic k b := rfl
theorem rd_obj {S : MS} {C : Str} {k : List Str} {b : List D} : rd S (.obj C k b) = .obj C k b := rfl
theorem rd_ref {S : MS} {a : Addr} {ds : List D} (h : S a = some (.lst ds)) : rd S (.ref a) = .lst ds := by
  show rdM a (S a) = _
  rw [h]
  rfl
/-- what is no instance and no address is as it is -/
theorem rd_pl {S : MS} {d : D} (h : plD d = true) : rd S d = d := by cases d <;> first | rfl | exact absurd h Bool.false_ne_true
theorem outK.mk {Q : KV2} {d : D} {S S' : MS} (s : Sub S S') (q : Q d S) : outK Q d S' := ⟨S, s, q⟩
theorem outK.same {Q : KV2} {d : D} {S : MS} (q : Q d S) : outK Q d S := ⟨S, Sub.refl S, q⟩
theorem newL_f {xs : List D} {S : MS} {Q : KV2} : newL false xs S Q ↔ Q (.lst xs) S := by simp [newL]
theorem newL_t {xs : List D} {S : MS} {Q : KV2} : newL true xs S Q ↔ ∀ a, S a = none → Q (.ref a) (S.set a (.lst xs)) := by simp [newL]
mutual
def pu : D → Bool
  | .obj _ _ _ => false
  | .ref _ => false
  | .wtup _ => false
  | .str s => (PyData.str s).canLay0
  | .tup ds => pus ds
  | .lst ds => pus ds
  | .dic _ ds => pus ds
  | _ => true
def pus : List D → Bool
  | [] => true
  | d :: ds => pu d && pus ds
end
theorem pl_of_pu {d : D} (h : pu d = true) : plD d = true := by cases d <;> first | rfl | simp [pu] at h
theorem pus_iff : ∀ {ds : List D}, pus ds = true ↔ ∀ d ∈ ds, pu d = true
  | [] => by simp [pus]
  | d :: ds => by simp [pus, pus_iff (ds := ds)]
theorem pus_append {xs ys : List D} : pus (xs ++ ys) = (pus xs && pus ys) := by
  induction xs with
  | nil => simp [pus]
  | cons x xs ih => simp [pus, ih, Bool.and_assoc]
/-! ### loops -/
theorem forW_inv {g : MS → Prop} {wg : WG} {wb : WS} {De : DEnds} (I : List D → List D → Rho → MS → Prop) (hg : ∀ dn td ρ S, I dn td ρ S → g S)
    (hs : ∀ dn d td ρ S, I dn (d :: td) ρ S → ∀ N : Rho → MS → Prop, (∀ ρ' S', I (dn ++ [d]) td ρ' S' → N ρ' S') → wg d ρ S fun ρ1 S1 => wb { De with nx := N, ct := N, bk := De.nx } ρ1 S1)
    (hd : ∀ dn ρ S, I dn [] ρ S → De.nx ρ S) : ∀ (td dn : List D) (ρ : Rho) (S : MS), I dn td ρ S → forW g wg wb De td ρ S
  | [], dn, ρ, S, h => ⟨hg dn [] ρ S h, hd dn ρ S h⟩
  | d :: td, dn, ρ, S, h => ⟨hg dn _ ρ S h, hs dn d td ρ S h _ fun ρ' S' h' => forW_inv I hg hs hd td (dn ++ [d]) ρ' S' h'⟩
/-- by turns: I at (number of the turn, state) -/
theorem forW_n {g : MS → Prop} {wg : WG} {wb : WS} {De : DEnds} {ds : List D} (I : Nat → Rho → MS → Prop) (hg : ∀ i ρ S, I i ρ S → g S)
    (hs : ∀ i d ρ S, ds[i]? = some d → I i ρ S → ∀ N : Rho → MS → Prop, (∀ ρ' S', I (i + 1) ρ' S' → N ρ' S') → wg d ρ S fun ρ1 S1 => wb { De with nx := N, ct := N, bk := De.nx } ρ1 S1)
    (hd : ∀ ρ S, I ds.length ρ S → De.nx ρ S) {ρ : Rho} {S : MS} (h : I 0 ρ S) : forW g wg wb De ds ρ S := by
  refine forW_inv (fun dn td ρ S => dn ++ td = ds ∧ I dn.length ρ S) (fun _ _ ρ S ⟨_, h⟩ => hg _ ρ S h) (fun dn d td ρ S ⟨e, h⟩ N hN => ?hs) (fun dn ρ S ⟨e, h⟩ => ?hd) ds [] ρ S ⟨rfl, h⟩
  case hs =>
    refine hs dn.length d ρ S (by rw [← e]; simp) h N fun ρ' S' h' => hN ρ' S' ⟨by rw [← e]; simp, ?_⟩
    rw [List.length_append, List.length_singleton]
    exact h'
  case hd =>
    rw [List.append_nil] at e
    subst e
    exact hd ρ S h
/-! ### comprehensions whose turns change nothing -/
theorem compL_inv {a : Addr} {g : MS → Prop} {wg : WG} {wt : WT} {we : WE} {ρ0 : Rho} {S0 : MS} {Q : MS → Prop} (ha : S0 a = none) (I : List D → List D → List D → Prop) (hg : ∀ S, Sub S0 S → g S)
    (hs : ∀ dn d td acc, I dn (d :: td) acc → ∀ (N : D → MS → Prop) (M : MS → Prop), (∀ x S', S' = S0.set a (.lst acc) → acc.length < sizeLine → I (dn ++ [d]) td (acc ++ [x]) → N x S') → (∀ S', S' = S0.set a (.lst acc) → I (dn ++ [d]) td acc → M S') →
      wg d ρ0 (S0.set a (.lst acc)) fun ρ1 S1 => wt ρ1 S1 fun b ρ2 S2 => if b = true then we ρ2 S2 fun x _ S3 => N x S3 else M S2)
    (hz : ∀ dn td acc, I dn td acc → td ≠ [] → acc.length < sizeLine) (hd : ∀ dn acc, I dn [] acc → Q (S0.set a (.lst acc))) :
    ∀ (td dn acc : List D), I dn td acc → compW a g wg wt we Q ρ0 td (S0.set a (.lst acc))
  | [], dn, acc, h => ⟨hg _ (Sub.set ha), hd dn acc h⟩
  | d :: td, dn, acc, h => ⟨hg _ (Sub.set ha), by
    refine hs dn d td acc h _ _ (fun x S' e hz' hi => ?_) (fun S' e hi => ?_)
    · subst e
      refine ⟨acc, MS.set_same, hz', ?_⟩
      rw [MS.set_set]
      exact compL_inv ha I hg hs hz hd td (dn ++ [d]) (acc ++ [x]) hi
    · subst e
      exact compL_inv ha I hg hs hz hd td (dn ++ [d]) acc hi⟩
/-- the end of a comprehension whose list is not to change -/
theorem endL_f {a : Addr} {S : MS} {ds : List D} {Q : KV2} (h : S a = none) (q : Q (.lst ds) S) : endL false a (S.set a (.lst ds)) Q := ⟨ds, MS.set_same, by
  rw [if_neg Bool.false_ne_true, MS.del_set h]
  exact q⟩
theorem endL_t {a : Addr} {S : MS} {ds : List D} {Q : KV2} (q : Q (.ref a) (S.set a (.lst ds))) : endL true a (S.set a (.lst ds)) Q := ⟨ds, MS.set_same, by
  rw [if_pos rfl]
  exact q⟩
/-- [f x for x in ds] -/
theorem compL_map {g : MS → Prop} {wg : WG} {we : WE} {ρ0 : Rho} {S0 : MS} {Q : KV2} {ds : List D} (f : D → D) (hg : ∀ S, Sub S0 S → g S) (hz : ds.length ≤ sizeLine)
    (hs : ∀ d ∈ ds, ∀ S, Sub S0 S → ∀ N : D → MS → Prop, N (f d) S → wg d ρ0 S fun ρ1 S1 => we ρ1 S1 fun x _ S3 => N x S3) (q : Q (.lst (ds.map f)) S0) :
    ∀ a, S0 a = none → compW a g wg wYes we (fun S2 => endL false a S2 Q) ρ0 ds (S0.set a (.lst [])) := fun a ha => by
  refine compL_inv ha (fun dn td acc => dn ++ td = ds ∧ acc = dn.map f) hg (fun dn d td acc ⟨e, ea⟩ N M hN hM => ?hs) (fun dn td acc ⟨e, ea⟩ hne => ?hz) (fun dn acc ⟨e, ea⟩ => ?hd) ds [] [] ⟨rfl, rfl⟩
  case hs =>
    have hd : d ∈ ds := by rw [← e]; simp
    refine hs d hd _ (Sub.set ha) _ ?_
    refine hN (f d) _ rfl ?_ ⟨by rw [← e]; simp, by rw [ea]; simp⟩
    rw [ea, List.length_map]
    have : ds.length = dn.length + (td.length + 1) := by rw [← e]; simp
    omega
  case hz =>
    rw [ea, List.length_map]
    have h1 : ds.length = dn.length + td.length := by rw [← e]; simp
    have h2 : 0 < td.length := List.length_pos_iff.mpr hne
    omega
  case hd =>
    rw [List.append_nil] at e
    subst e ea
    exact endL_f ha q
/-- the same, a list that may change -/
theorem compL_mapT {g : MS → Prop} {wg : WG} {we : WE} {ρ0 : Rho} {S0 : MS} {Q : KV2} {ds : List D} (f : D → D) (hg : ∀ S, Sub S0 S → g S) (hz : ds.length ≤ sizeLine)
    (hs : ∀ d ∈ ds, ∀ S, Sub S0 S → ∀ N : D → MS → Prop, N (f d) S → wg d ρ0 S fun ρ1 S1 => we ρ1 S1 fun x _ S3 => N x S3) (q : ∀ a, S0 a = none → Q (.ref a) (S0.set a (.lst (ds.map f)))) :
    ∀ a, S0 a = none → compW a g wg wYes we (fun S2 => endL true a S2 Q) ρ0 ds (S0.set a (.lst [])) := fun a ha => by
  refine compL_inv ha (fun dn td acc => dn ++ td = ds ∧ acc = dn.map f) hg (fun dn d td acc ⟨e, ea⟩ N M hN hM => ?hs) (fun dn td acc ⟨e, ea⟩ hne => ?hz) (fun dn acc ⟨e, ea⟩ => ?hd) ds [] [] ⟨rfl, rfl⟩
  case hs =>
    have hd : d ∈ ds := by rw [← e]; simp
    refine hs d hd _ (Sub.set ha) _ ?_
    refine hN (f d) _ rfl ?_ ⟨by rw [← e]; simp, by rw [ea]; simp⟩
    rw [ea, List.length_map]
    have : ds.length = dn.length + (td.length + 1) := by rw [← e]; simp
    omega
  case hz =>
    rw [ea, List.length_map]
    have h1 : ds.length = dn.length + td.length := by rw [← e]; simp
    have h2 : 0 < td.length := List.length_pos_iff.mpr hne
    omega
  case hd =>
    rw [List.append_nil] at e
    subst e ea
    exact endL_t (q a ha)
/-- [f x for x in ds if c x] -/
theorem compL_filter {g : MS → Prop} {wg : WG} {wt : WT} {we : WE} {ρ0 : Rho} {S0 : MS} {Q : KV2} {ds : List D} (f : D → D) (c : D → Bool) (hg : ∀ S, Sub S0 S → g S) (hz : ds.length ≤ sizeLine)
    (hs : ∀ d ∈ ds, ∀ S, Sub S0 S → ∀ (N : D → MS → Prop) (M : MS → Prop), (c d = true → N (f d) S) → (c d = false → M S) → wg d ρ0 S fun ρ1 S1 => wt ρ1 S1 fun b ρ2 S2 => if b = true then we ρ2 S2 fun x _ S3 => N x S3 else M S2) (q : Q (.lst ((ds.filter c).map f)) S0) :
    ∀ a, S0 a = none → compW a g wg wt we (fun S2 => endL false a S2 Q) ρ0 ds (S0.set a (.lst [])) := fun a ha => by
  refine compL_inv ha (fun dn td acc => dn ++ td = ds ∧ acc = (dn.filter c).map f) hg (fun dn d td acc ⟨e, ea⟩ N M hN hM => ?hs) (fun dn td acc ⟨e, ea⟩ hne => ?hz) (fun dn acc ⟨e, ea⟩ => ?hd) ds [] [] ⟨rfl, rfl⟩
  case hs =>
    have hd : d ∈ ds := by rw [← e]; simp
    refine hs d hd _ (Sub.set ha) _ _ (fun hc => ?_) (fun hc => ?_)
    · refine hN (f d) _ rfl ?_ ⟨by rw [← e]; simp, by rw [ea]; simp [hc]⟩
      rw [ea, List.length_map]
      have h1 := List.length_filter_le c dn
      have : ds.length = dn.length + (td.length + 1) := by rw [← e]; simp
      omega
    · exact hM _ rfl ⟨by rw [← e]; simp, by rw [ea]; simp [hc]⟩
  case hz =>
    rw [ea, List.length_map]
    have h0 := List.length_filter_le c dn
    have h1 : ds.length = dn.length + td.length := by rw [← e]; simp
    have h2 : 0 < td.length := List.length_pos_iff.mpr hne
    omega
  case hd =>
    rw [List.append_nil] at e
    subst e ea
    exact endL_f ha q
/-- items of which something is so -/
theorem compL_all {g : MS → Prop} {wg : WG} {we : WE} {ρ0 : Rho} {S0 : MS} {Q : KV2} {ds : List D} (p : D → Prop) (hg : ∀ S, Sub S0 S → g S) (hz : ds.length ≤ sizeLine)
    (hs : ∀ d ∈ ds, ∀ S, Sub S0 S → ∀ N : D → MS → Prop, (∀ x, p x → N x S) → wg d ρ0 S fun ρ1 S1 => we ρ1 S1 fun x _ S3 => N x S3) (q : ∀ xs : List D, xs.length = ds.length → (∀ x ∈ xs, p x) → Q (.lst xs) S0) :
    ∀ a, S0 a = none → compW a g wg wYes we (fun S2 => endL false a S2 Q) ρ0 ds (S0.set a (.lst [])) := fun a ha => by
  refine compL_inv ha (fun dn td acc => dn ++ td = ds ∧ acc.length = dn.length ∧ ∀ x ∈ acc, p x) hg (fun dn d td acc ⟨e, ea, hp⟩ N M hN hM => ?hs) (fun dn td acc ⟨e, ea, _⟩ hne => ?hz) (fun dn acc ⟨e, ea, hp⟩ => ?hd) ds [] [] ⟨rfl, rfl, fun _ h => nomatch h⟩
  case hs =>
    have hd : d ∈ ds := by rw [← e]; simp
    refine hs d hd _ (Sub.set ha) _ fun x hx => ?_
    refine hN x _ rfl ?_ ⟨by rw [← e]; simp, by simp [ea], fun y hy => ?_⟩
    · have : ds.length = dn.length + (td.length + 1) := by rw [← e]; simp
      omega
    · rcases List.mem_append.mp hy with h | h
      · exact hp y h
      · rw [List.mem_singleton.mp h]
        exact hx
  case hz =>
    have h1 : ds.length = dn.length + td.length := by rw [← e]; simp
    have h2 : 0 < td.length := List.length_pos_iff.mpr hne
    omega
  case hd =>
    rw [List.append_nil] at e
    subst e
    exact endL_f ha (q acc ea hp)
theorem noG_any {S0 : MS} : ∀ S, Sub S0 S → noG S := fun _ _ => trivial
/-! ### two lists, the one within the other, known by what stays true of them -/
def vOf : D → V
  | .int i => .int i
  | .ref a => .ref a
  | _ => .non
theorem reps_vOf {K : PySem.W.Frag} {F : Hp} : ∀ {ds : List D}, (∀ d ∈ ds, (∃ i, d = D.int i) ∨ ∃ a, d = D.ref a) → Reps K F ds (ds.map vOf)
  | [], _ => .nil
  | d :: ds, h => by
    refine .cons ?_ (reps_vOf fun x hx => h x (List.mem_cons_of_mem _ hx))
    rcases h d List.mem_cons_self with ⟨i, rfl⟩ | ⟨a, rfl⟩
    · exact .int i
    · exact .ref a
theorem vOf_reps {K : PySem.W.Frag} {F : Hp} : ∀ {ds : List D} {vs : List V}, (∀ d ∈ ds, (∃ i, d = D.int i) ∨ ∃ a, d = D.ref a) → Reps K F ds vs → vs = ds.map vOf
  | [], _, _, r => by cases r; rfl
  | d :: ds, _, h, r => by
    cases r with
    | cons r1 r2 =>
      rw [vOf_reps (fun x hx => h x (List.mem_cons_of_mem _ hx)) r2]
      rcases h d List.mem_cons_self with ⟨i, rfl⟩ | ⟨a, rfl⟩
      · cases r1
        rfl
      · cases r1
        rfl
def opq2 (J : List D → List Int → Addr → Prop) : Hp → Addr → List Addr → Prop := fun H a own => ∃ c ds cells, own = [c] ∧ H a = some (.lst (ds.map vOf)) ∧ H c = some (.lst (cells.map V.int)) ∧ J ds cells c
section
variable {K : PySem.W.Frag} {F F' : Hp} {S : MS} {H H' : Hp} {J : List D → List Int → Addr → Prop} {t : Addr}
def IntRef (J : List D → List Int → Addr → Prop) : Prop := ∀ ds cells c, J ds cells c → ∀ d ∈ ds, (∃ i, d = D.int i) ∨ ∃ a, d = D.ref a
def opened (S : MS) (t c : Addr) (ds : List D) (cells : List Int) : MS := (S.set t (.lst ds)).set c (.lst (cells.map D.int))
theorem FS.open2 (x : FS K F S H) (h : S t = some (.opq (opq2 J))) (hJ : IntRef J) : ∃ c ds cells, J ds cells c ∧ S c = none ∧ c ≠ t ∧ FS K F (opened S t c ds cells) H := by
  obtain ⟨ft, own, ho, hs, hf⟩ := x.st t _ h
  obtain ⟨c, ds, cells, rfl, e1, e2, j⟩ := hf H fun _ _ => rfl
  obtain ⟨fc, sc, ct, _⟩ := ho c (List.mem_singleton.mpr rfl)
  refine ⟨c, ds, cells, j, sc, ct, x.fr, fun a m e => ?_, fun a b u v h1 h2 h3 h4 => ?_⟩
  · unfold opened at e
    by_cases ha : a = c
    · subst ha
      rw [MS.set_same] at e
      cases e
      exact ⟨fc, _, e2, .of_ints cells⟩
    · rw [MS.set_ne ha] at e
      by_cases hb : a = t
      · subst hb
        rw [MS.set_same] at e
        cases e
        exact ⟨ft, _, e1, reps_vOf (hJ ds cells c j)⟩
      · rw [MS.set_ne hb] at e
        obtain ⟨f, k⟩ := x.st a m e
        cases m with
        | opq φ => exact absurd (x.one a t _ _ e h rfl rfl) hb
        | lst ds => exact ⟨f, k⟩
        | dic ks ds => exact ⟨f, k⟩
        | ins C ns ds => exact ⟨f, k⟩
  · unfold opened at h1 h2
    have nc : ∀ {a m}, ((S.set t (.lst ds)).set c (.lst (cells.map D.int))) a = some m → isOpq m = true → S a = some m := fun {a m} e o => by
      by_cases ha : a = c
      · subst ha
        rw [MS.set_same] at e
        cases e
        cases o
      · rw [MS.set_ne ha] at e
        by_cases hb : a = t
        · subst hb
          rw [MS.set_same] at e
          cases e
          cases o
        · rw [MS.set_ne hb] at e
          exact e
    exact x.one a b u v (nc h1 h3) (nc h2 h4) h3 h4
theorem FS.close2 {c : Addr} {ds : List D} {cells : List Int} (x : FS K F (opened S t c ds cells) H) (one : ∀ a b m n, S a = some m → S b = some n → isOpq m = true → isOpq n = true → a = b) (h : S t = some (.opq (opq2 J))) (hJ : IntRef J) (sc : S c = none) (ct : c ≠ t) (j : J ds cells c) : FS K F S H := by
  unfold opened at x
  have st1 : ((S.set t (.lst ds)).set c (.lst (cells.map D.int))) t = some (.lst ds) := by rw [MS.set_ne (Ne.symm ct), MS.set_same]
  obtain ⟨ft, us, hu, ru⟩ := x.st t _ st1
  obtain ⟨fc, ws, hw, rw'⟩ := x.st c _ MS.set_same
  have eu := vOf_reps (hJ ds cells c j) ru
  have ew := rw'.ints
  subst eu ew
  refine ⟨x.fr, fun a m e => ?_, one⟩
  by_cases ha : a = t
  · subst ha
    rw [h] at e
    cases e
    refine ⟨ft, [c], fun d hd => ?_, by rw [hu]; rfl, fun H' hH => ?_⟩
    · rw [List.mem_singleton.mp hd]
      exact ⟨fc, sc, ct, by rw [hw]; rfl⟩
    · exact ⟨c, ds, cells, rfl, by rw [hH a (.inl rfl)]; exact hu, by rw [hH c (.inr (List.mem_singleton.mpr rfl))]; exact hw, j⟩
  · have hac : a ≠ c := fun z => by
      rw [z, sc] at e
      cases e
    have e2 : ((S.set t (.lst ds)).set c (.lst (cells.map D.int))) a = some m := by rw [MS.set_ne hac, MS.set_ne ha]; exact e
    obtain ⟨f, k⟩ := x.st a m e2
    refine ⟨f, mok_move k (ExF.refl F) rfl fun b h1 h2 h3 h4 => ⟨h1, ?_, rfl⟩⟩
    have hbc : b ≠ c := fun z => by
      rw [z, MS.set_same] at h2
      cases h2
    rw [MS.set_ne hbc] at h2
    have hbt : b ≠ t := fun z => by
      rw [z, MS.set_same] at h2
      cases h2
    rw [MS.set_ne hbt] at h2
    exact h2
/-- made anew -/
theorem FS.made2 {c : Addr} {ds : List D} {cells : List Int} (x : FS K F (opened S t c ds cells) H) (no : ∀ a m, S a = some m → isOpq m = false) (hJ : IntRef J) (st : S t = none) (sc : S c = none) (ct : c ≠ t) (j : J ds cells c) : FS K F (S.set t (.opq (opq2 J))) H := by
  have e : opened (S.set t (.opq (opq2 J))) t c ds cells = opened S t c ds cells := by
    unfold opened
    rw [MS.set_set]
  rw [← e] at x
  refine x.close2 (fun a b m n h1 h2 h3 h4 => ?_) MS.set_same hJ (by rw [MS.set_ne ct]; exact sc) ct j
  have key : ∀ {a m}, (S.set t (.opq (opq2 J))) a = some m → isOpq m = true → a = t := fun {a m} h o => by
    by_cases ha : a = t
    · exact ha
    · rw [MS.set_ne ha] at h
      rw [no a m h] at o
      cases o
  rw [key h1 h3, key h2 h4]
end
/-- a draw: a number below a limit, all else as it was -/
def drawSp (J : List D → List Int → Addr → Prop) : DSp := fun ds S Q _ => ∃ t n, ds = [.ref t, .int n] ∧ S t = some (.opq (opq2 J)) ∧ (0 < n ∧ n < 1000000000) ∧ ∀ i : Int, 0 ≤ i → i < n → Q (.int i) S
/-- the same over what the thing holds -/
def drawSpO (J : List D → List Int → Addr → Prop) : DSp := fun ds S' Q _ => ∃ S t c n xs cells, ds = [.ref t, .int n] ∧ S' = opened S t c xs cells ∧ J xs cells c ∧ S c = none ∧ c ≠ t ∧ (0 < n ∧ n < 1000000000) ∧
  ∀ (i : Int) xs' cells', 0 ≤ i → i < n → J xs' cells' c → Q (.int i) (opened S t c xs' cells')
theorem draw_of {P : Program} {w : World} {K : PySem.W.Frag} {mg : Str → Option Value} {base : Heap} {CX : CXT} {k : Nat} {x : Str} {ps : List Str} {J : List D → List Int → Addr → Prop} (hJ : IntRef J) (h : Def P w K mg base CX k x ps (drawSpO J)) : Def P w K mg base CX k x ps (drawSp J) := by
  obtain ⟨f, fd, F, r⟩ := h.ex
  refine ⟨f, fd, F.imp fun vs H Q E q => ?_, r⟩
  obtain ⟨ds, F0, S, Qd, Ed, fs, rr, ⟨t, n, rfl, hs, hn, hq⟩, kq, ke⟩ := q
  obtain ⟨c, xs, cells, j, sc, ct, fs2⟩ := fs.open2 hs hJ
  refine ⟨_, F0, opened S t c xs cells, fun d S2 => ∃ i xs' cells', d = .int i ∧ 0 ≤ i ∧ i < n ∧ J xs' cells' c ∧ S2 = opened S t c xs' cells', Ed, fs2, rr, ⟨S, t, c, n, xs, cells, rfl, rfl, j, sc, ct, hn, fun i xs' cells' h1 h2 h3 => ⟨i, xs', cells', rfl, h1, h2, h3, rfl⟩⟩, ?_, ke⟩
  rintro v H' d F' S' ex fs' rv ⟨i, xs', cells', rfl, h1, h2, h3, rfl⟩
  exact kq v H' _ F' S ex (fs'.close2 fs.one hs hJ sc ct h3) rv (hq i h1 h2)
end DL
/-! DL10: x[::-1], {}, sorted of lists and tuples. -/
namespace DL
open PySem PySem.Spec PyProof.Rows L2
section
variable {prog : Program} {w : World} {A : Around} {E : Value → Shared → Prop} {s : Shared}
theorem collect_sq {Q : List Value → Shared → Prop} (it : Addr) {T : String} {o : Obj} {items : Array Value} {n : Nat} (hT : T = "list" ∨ T = "tuple")
    (ho : s.heap.get? it = some o) (hc : o.cls = .type T) (hd : o.data = .seq items n)
    (hQ : ∀ h', (∀ b o', s.heap.get? b = some o' → h'.get? b = some o') → s.heap.objs.size ≤ h'.objs.size → Q items.toList { s with heap := h' }) (hsz : items.size ≤ sizeLine) :
    wpAny (model prog w) A (collect (.ref it)) Q E s := by
  unfold collect
  refine wpAny_bind (wpAny_runValue (codeAny_builtin F.entry_proto_collect ?_))
  rw [Around.under_plainId F.plain_proto_collect _]
  show wpAny _ A.in1 (newList [] >>= fun l => again (.builtin "list.__iadd__" ⟨[l, .ref it], []⟩)) _ _ s
  refine wpAny_bind (wpAny_newObj_type ?_)
  refine wpAny_pure ⟨plainId_quiet F.plain_list_iadd _, codeAny_builtin F.entry_list_iadd ?_⟩
  rw [Around.under_plainId F.plain_list_iadd _]
  show wpAny _ A.in1 (Builtin.List.listExtendWith (.ref s.heap.objs.size) (.ref it) (.ref s.heap.objs.size)) _ _ _
  have hS : (s.heap.push { cls := .type "list", data := .seq ([] : List Value).toArray }).get? s.heap.objs.size = some { cls := .type "list", data := .seq #[] 0 } := Heap.get?_push_size _ rfl
  have hS₂ := Heap.get?_update_self (Obj.mapSeq (· ++ items)) hS rfl
  have fin' : wpAny (model prog w) A (match Value.ref s.heap.objs.size with
      | Value.ref a => do
        match (← load a).data with
          | Data.seq xs _ => pure xs.toList
          | _ => unsupported "internal:collect"
      | _ => unsupported "internal:collect") Q E { s with heap := (s.heap.push { cls := .type "list", data := .seq ([] : List Value).toArray }).update s.heap.objs.size (Obj.mapSeq (· ++ items)) } := by
    show wpAny _ A (load s.heap.objs.size >>= _) _ _ _
    refine wpAny_bind (wpAny_load hS₂ ?_)
    refine wpAny_pure ?_
    have e : ((#[] : Array Value) ++ items).toList = items.toList := by simp
    show Q ((#[] : Array Value) ++ items).toList _
    rw [e]
    refine hQ _ (fun b o' hb => ?_) (by rw [Heap.size_update, size_push']; exact Nat.le_succ _)
    exact (Heap.get?_update_other _ _ (Nat.ne_of_gt (Heap.lt_size hb))).trans (Heap.get?_push_of_some _ hb)
  refine wpAny_mono (wpAny_extend_seq (hsz := hsz) (A := A) (R := fun r s' => r = .ok (.ret (.ref s.heap.objs.size)) ∧ s' = { s with heap := (s.heap.push { cls := .type "list", data := .seq ([] : List Value).toArray }).update s.heap.objs.size (Obj.mapSeq (· ++ items)) })
    (s := { s with heap := s.heap.push { cls := .type "list", data := .seq ([] : List Value).toArray } }) _ it _ 0 hT hS (Heap.get?_push_of_some _ ho) hc hd ⟨rfl, rfl⟩) (fun fin s' h => ?_) (fun e s' h => ?_)
  · cases fin with
    | done f =>
      obtain ⟨e, rfl⟩ := h
      cases e
      exact fin'
    | again c' => exact ⟨h.1, codeAny_mono h.2 fun r s'' hr => by obtain ⟨rfl, rfl⟩ := hr; exact fin'⟩
  · exact absurd h.1 (by simp)
/-- sorted of a list or a tuple -/
theorem sorted_sq {it : Addr} {T : String} {o : Obj} {vs : List Value} {n : Nat} {ltv : Value → Value → Bool} {Q : Value → Shared → Prop} (O : SrtO.Swo ltv) (hT : T = "list" ∨ T = "tuple")
    (ho : s.heap.get? it = some o) (hc : o.cls = .type T) (hd : o.data = .seq vs.toArray n) (hz : vs.length ≤ sizeLine)
    (hS : 2 ≤ vs.length → ∀ (h₁ : Heap) (a : Addr), h₁.get? a = some (seqObj "list" vs.toArray 0) → (∀ b o, s.heap.get? b = some o → b ≠ a ∧ h₁.get? b = some o) → SrtO.SortableO prog w A.in1.in1 { s with heap := h₁ } a vs ltv)
    (h : ∀ (out : List Value) (h' : Heap) (a : Addr) (e : Nat), SrtO.Srtd ltv out → SrtO.Stb ltv out vs → s.heap.objs.size ≤ a → (∀ b o, s.heap.get? b = some o → h'.get? b = some o) → h'.get? a = some (seqObj "list" out.toArray e) → Q (.ref a) { s with heap := h' }) :
    wpAny (model prog w) A (call (.builtin "sorted") [.ref it]) Q E s := by
  refine Calls.call_function_entry kind_sorted plain_sorted entry_sorted (args_sorted1 _) ?_
  unfold Builtin.«sorted»
  refine wpAny_bind (m := checkCount "sorted" 1 1 _) (wpAny_pure ?_)
  refine wpAny_bind (collect_sq it hT ho hc hd (fun h1 k1 z1 => ?_) (by rw [List.size_toArray]; exact hz))
  refine wpAny_bind (wpAny_newList ?_ hz)
  have hoL : (h1.push (seqObj "list" vs.toArray 0)).get? h1.objs.size = some (seqObj "list" vs.toArray 0) := Heap.get?_push_size _ rfl
  have keep : ∀ b o, s.heap.get? b = some o → b ≠ h1.objs.size ∧ (h1.push (seqObj "list" vs.toArray 0)).get? b = some o := fun b o q =>
    ⟨Nat.ne_of_lt (Heap.lt_size (k1 b o q)), Heap.get?_push_of_some _ (k1 b o q)⟩
  show wpAny _ _ _ _ _ { s with heap := h1.push (seqObj "list" vs.toArray 0) }
  refine wpAny_bind (wpAny_holding (wpAny_call_entry slot_list_sort ⟨_, hoL, rfl⟩ entry_list_sort (SrtO.list_sort_ord O hoL hz (fun h2 => hS h2 _ _ hoL keep) fun out hs hb => ⟨_, rfl, ?_⟩) (args_list_sort _)))
  obtain ⟨e, he⟩ := sortedHeap_at (vs := vs) (out := out.toArray) hoL
  refine wpAny_pure ⟨_, rfl, h out _ _ e hs hb z1 (fun b o q => ?_) he⟩
  obtain ⟨hb1, hb2⟩ := keep b o q
  exact (PyProof.Rows.sortedHeap_old hb1 (Heap.lt_size hb2)).trans hb2
end
/-- sorted(xs), ints, a list's or a tuple's -/
def rSortedA (K : PySem.W.Frag) : List V → Hp → VK → Prop := fun vs H Q => ∃ (a : Addr) (ns : List Int), vs = [V.ref a] ∧ (SqL K H a (ns.map V.int) ∨ SqT K H a (ns.map V.int)) ∧
  ∀ (ns' : List Int) (p : Addr), ns'.Perm ns → ns'.Pairwise (· ≤ ·) → H p = none → Q (.ref p) (upd H p (.lst (ns'.map V.int)))
section
variable {X : Cx} {K : PySem.W.Frag}
theorem cr_sortedA : CallR X (.builtin "sorted") (rSortedA X.K) := by
  intro pins s σ H vs us Q I r h
  obtain ⟨a, ns, rfl, hs, q⟩ := h
  rw [Vals.ref1 r]
  have key : ∀ (T : String) (its : List Value) (o : Obj) (n : Nat), (T = "list" ∨ T = "tuple") → s.heap.get? a = some o → o.cls = .type T → o.data = .seq its.toArray n → Vals (ns.map V.int) its → (ns.map V.int).length ≤ sizeLine → wpAny (model X.prog X.w) X.A (call (.builtin "sorted") [.ref a]) (EP X pins σ Q) X.xe s := by
    intro T its o n hT ho hc hd rv hz
    have hi := rv.ints
    refine sorted_sq SrtO.swo_int hT ho hc hd (by rw [← rv.length]; exact hz) (fun h2 h₁ a' _ _ => SrtO.ints_sortable hi h2) fun out h' p e h1 h2 sz kp he' => ?_
    obtain ⟨k1, k2, k3⟩ := SrtO.ints_out hi h1 h2
    have hlen : ((out.map SrtO.iv).map V.int).length ≤ sizeLine := by
      rw [List.length_map, k2.length_eq]
      rw [List.length_map] at hz
      exact hz
    exact ⟨.ref _, upd H p (.lst ((out.map SrtO.iv).map V.int)), I.laid (t' := s.toks) kp sz ⟨hlen, out, e, vals_of_ints k1, he'⟩, rfl, q _ _ k2 k3 (I.hok.fresh sz)⟩
  rcases hs with hs | hs
  · obtain ⟨its, rv, hl, hz⟩ := I.list hs
    obtain ⟨o, ho, hc, n, hd⟩ := hl.isList
    exact key "list" its o n (.inl rfl) ho hc hd rv hz
  · obtain ⟨its, rv, ⟨o, ho, hc, n, hd⟩, hz⟩ := I.tuple hs
    exact key "tuple" its o n (.inr rfl) ho hc hd rv hz
def cSortedA (m : Bool) : D → MS → KV2 → Prop
  | .lst ds => fun S Q => ∃ ns : List Int, ds = ns.map D.int ∧ ∀ ns' : List Int, ns'.Perm ns → ns'.Pairwise (· ≤ ·) → newL m (ns'.map D.int) S Q
  | .tup ds => fun S Q => ∃ ns : List Int, ds = ns.map D.int ∧ ∀ ns' : List Int, ns'.Perm ns → ns'.Pairwise (· ≤ ·) → newL m (ns'.map D.int) S Q
  | _ => fun _ _ => False
theorem roc_sortedA (m : Bool) : ROc K (rSortedA K) (w1 (cSortedA m)) := roc1 fun F S H x v Q R fs rx q k => by
  cases x <;> first | exact q.elim | skip
  · obtain ⟨ns, e, q⟩ := q
    subst e
    obtain ⟨a, vs, rfl, h1, h2, h3⟩ := rx
    have e := h2.ints
    subst e
    exact ⟨a, ns, rfl, .inr h1, fun ns' p hp hs hn => newL_ok k fs (.of_ints ns') (q ns' hp hs) hn⟩
  · obtain ⟨ns, e, q⟩ := q
    subst e
    obtain ⟨a, vs, rfl, h1, h2⟩ := rx
    have e := h2.ints
    subst e
    exact ⟨a, ns, rfl, .inl (.inl h1), fun ns' p hp hs hn => newL_ok k fs (.of_ints ns') (q ns' hp hs) hn⟩
end
/-! ### x[::-1] -/
section
variable {prog : Program} {w : World} {A : Around} {E : Value → Shared → Prop} {s : Shared}
theorem sliceApplied_rev {sl : Addr} {t : Tok} {n : Nat} {Q : Int × Int × Nat → Shared → Prop} (hs : s.heap.IsSliceOf sl .none .none (.int (-1) t))
    (h : Q ((n : Int) - 1, -1, n) s) : wpAny (model prog w) A (Builtin.Slice.sliceApplied (.ref sl) (pure (n : Int))) Q E s := by
  obtain ⟨os, hos, hcs, hds⟩ := id hs
  unfold Builtin.Slice.sliceApplied Builtin.Slice.sliceFields
  refine wpAny_bind (wpAny_bind (wpAny_field hos hds (x := .none) rfl (wpAny_bind (wpAny_field hos hds (x := .none) rfl (wpAny_bind (wpAny_field hos hds (x := .int (-1) t) rfl (wpAny_pure ?_)))))))
  refine wpAny_bind (slicePart_int ?_)
  show wpAny _ _ (if ((-1 : Int) == 0) = true then _ else _) _ _ s
  rw [if_neg (by decide)]
  refine wpAny_bind (slicePart_none (wpAny_bind (slicePart_none (wpAny_bind (wpAny_pure ?_)))))
  have e : Builtin.Slice.slicePlaces ((n : Int) - 1) (-1) (-1) = n := by
    unfold Builtin.Slice.slicePlaces
    rw [if_neg (by decide)]
    by_cases hn : (n : Int) - 1 > -1
    · rw [if_pos hn, show (-(-1 : Int)) = 1 from rfl, Int.ediv_one]
      omega
    · rw [if_neg hn]
      omega
  have q : wpAny (model prog w) A (pure (((n : Int) - 1), (-1 : Int), Builtin.Slice.slicePlaces ((n : Int) - 1) (-1) (-1))) Q E s := by
    rw [e]
    exact wpAny_pure h
  exact q
theorem fm_congr {α β : Type} {f g : α → Option β} : ∀ {l : List α}, (∀ m ∈ l, f m = g m) → l.filterMap f = l.filterMap g
  | [], _ => rfl
  | a :: l, h => by rw [List.filterMap_cons, List.filterMap_cons, h a List.mem_cons_self, fm_congr fun m hm => h m (List.mem_cons_of_mem _ hm)]
theorem pick_rev (xs : Array Value) : ((List.range xs.size).filterMap fun (m : Nat) => xs[(((xs.size : Int) - 1) + (m : Int) * (-1)).toNat]?).toArray = xs.toList.reverse.toArray := by
  have e : ((List.range xs.size).filterMap fun (m : Nat) => xs[(((xs.size : Int) - 1) + (m : Int) * (-1)).toNat]?) = (((List.range xs.size).map fun k => xs.size - 1 - k).filterMap (xs[·]?)) := by
    rw [List.filterMap_map]
    refine fm_congr fun m hm => ?_
    have hm' := List.mem_range.mp hm
    show xs[_]? = xs[xs.size - 1 - m]?
    have : (((xs.size : Int) - 1) + (m : Int) * (-1)).toNat = xs.size - 1 - m := by omega
    rw [this]
  rw [e, PySem.W.krv_range, List.filterMap_reverse, PySem.W.krv_all]
theorem getItem_tuple_rev {t sl : Addr} {items : Array Value} {u : Tok} {Q : Value → Shared → Prop} (ht : IsTup s.heap t items) (hs : s.heap.IsSliceOf sl .none .none (.int (-1) u))
    (h : Q (.ref s.heap.objs.size) { s with heap := s.heap.push { cls := .type "tuple", data := .seq items.toList.reverse.toArray } })
    (hsz : items.size ≤ sizeLine) : wpAny (model prog w) A (getItem (.ref t) (.ref sl)) Q E s := by
  have htake : sizeOk (.seq items.toList.reverse.toArray) := by
    show items.toList.reverse.toArray.size ≤ sizeLine
    rw [List.size_toArray, List.length_reverse, Array.length_toList]
    exact hsz
  obtain ⟨os, hos, hcs, hds⟩ := id hs
  have hTs : s.TypeIs (.ref sl) "slice" := ⟨os, hos, hcs⟩
  unfold getItem
  try with_reducible refine wpAny_holding ?_
  first | refine wpAny_bind (wpAny_pure ?_) | skip
  refine wpAny_bind (wpAny_sequenceKey ht.typeIs (by decide) ?_)
  refine wpAny_bind (wpAny_callSpecial?_slot (name := Str.ofString "__getitem__") ht.typeIs PyProof.Rows.slot_tuple_getitem
    (wpAny_call_entry PyProof.Rows.slot_tuple_getitem ht.typeIs entry_tuple_getitem ?_ (args_tuple_getitem _ _)))
  show wpAny _ _ (Builtin.Tuple.tupleItemsOf (.ref t) >>= _) _ _ s
  refine wpAny_bind (tupleItemsOf_ ht ?_)
  refine wpAny_bind (wpAny_typeOf hTs ?_)
  rw [if_pos (by decide)]
  refine wpAny_bind (sliceApplied_rev hs ?_)
  have hno : ¬ ((((items.size : Int) - 1) == 0 && (-1 : Int) == 1 && items.size == items.size) = true) := by
    intro q
    rw [Bool.and_eq_true, Bool.and_eq_true] at q
    exact absurd q.1.2 (by decide)
  show wpAny _ _ (if (((items.size : Int) - 1) == 0 && (-1 : Int) == 1 && items.size == items.size) = true then _ else _) _ _ s
  rw [if_neg hno, pick_rev]
  first
    | exact wpAny_bind (m := Builtin.Tuple.tupleExact _) (wpAny_newObj_type (wpAny_pure ⟨_, rfl, wpAny_pure h⟩) htake)
    | exact wpAny_bind (m := Builtin.Tuple.tupleExact _) (wpAny_newObj_type (wpAny_bind (wpAny_pure (wpAny_pure ⟨_, rfl, wpAny_pure h⟩))) htake)
    | exact wpAny_bind (wpAny_bind (m := Builtin.Tuple.tupleExact _) (wpAny_newObj_type (wpAny_pure (wpAny_pure ⟨_, rfl, wpAny_pure h⟩)) htake))
    | exact wpAny_bind (wpAny_bind (m := Builtin.Tuple.tupleExact _) (wpAny_newObj_type (wpAny_pure ⟨_, rfl, wpAny_pure h⟩) htake))
end
def rRevX (K : PySem.W.Frag) : V → Hp → VK → Prop := fun x H Q => ∃ a xs, x = .ref a ∧ ((SqL K H a xs ∧ ∀ p, H p = none → Q (.ref p) (upd H p (.lst xs.reverse))) ∨ (SqT K H a xs ∧ NewT H xs.reverse Q))
def tRevX (K : PySem.W.Frag) (te ts : TE) : TE := fun σ H Q => te σ H fun x H1 => ts σ H1 fun k H2 => k = .int (-1) ∧ rRevX K x H2 Q
section
variable {X : Cx} {K : PySem.W.Frag} {L : Lk} {a b : Expr} {ta tb : TE} {wa wb : WE} {pos p2 : Pos}
theorem pe_revX (he : PE X a ta) (hk : PE X b tb) : PE X (.Subscript a (.Slice none none (some b) p2) pos) (tRevX X.K ta tb) := by
  refine ⟨fun pins s σ H Q I h => ?_⟩
  refine Subscript_ (thn (he.run pins s σ H _ I h) fun v s1 ⟨x, H1, I1, r1, q1⟩ => ?_)
  refine wpAny_Slice ?_
  rw [evalPart_none]
  refine wpAny_pure (wpAny_pure ?_)
  rw [evalPart_some]
  refine thn (hk.run pins s1 σ H1 _ I1 q1) fun vk s2 ⟨k, H2, I2, rk, ek, xa, xs, ex, q2⟩ => ?_
  subst ek ex
  obtain ⟨tk, rfl⟩ := rk
  cases r1
  have I4 : Inv X pins σ H2 { s2 with heap := s2.heap.push { cls := .type "slice", data := .fields #[.none, .none, .int (-1) tk] } } := I2.kept (t' := s2.toks) fun b ob q => Heap.get?_push_of_some _ q
  have hsl : (s2.heap.push { cls := .type "slice", data := .fields #[.none, .none, .int (-1) tk] }).IsSliceOf s2.heap.objs.size .none .none (.int (-1) tk) := Heap.IsSliceOf.new ..
  show wpAny (model X.prog X.w) X.A (subscriptTail a (.Slice none none (some b) p2) (.ref xa) (.ref s2.heap.objs.size)) (EP X pins σ Q) X.xe { s2 with heap := s2.heap.push { cls := .type "slice", data := .fields #[.none, .none, .int (-1) tk] } }
  rcases q2 with ⟨hx, q⟩ | ⟨hx, q⟩
  · obtain ⟨its, r, ht, hz⟩ := I4.list hx
    refine tail_any (ops := [.ref xa, .ref s2.heap.objs.size]) ht.isList.typeIs slot_list_getitem.lookup ?_ (by with_unfolding_all rfl)
    refine wpAny_getItem_list_slice (st := some (-1)) ht.isList hsl .none .none (.int _ _) (by simp) ?_ (by rw [List.size_toArray, ← r.length]; exact hz)
    rw [PySem.W.krv_pick]
    refine ⟨.ref _, _, I4.laid (t' := s2.toks) (o := .lst xs.reverse) (fun b ob q => Heap.get?_push_of_some _ q) (Nat.le_refl _) ?_, rfl, q _ (I4.hok.fresh (Nat.le_refl _))⟩
    exact ⟨by rw [List.length_reverse]; exact hz, _, 0, r.reverse, Heap.get?_push_size _ rfl⟩
  · obtain ⟨its, r, ht, hz⟩ := I4.tuple hx
    refine tail_any (ops := [.ref xa, .ref s2.heap.objs.size]) ht.typeIs PyProof.Rows.slot_tuple_getitem.lookup ?_ (by with_unfolding_all rfl)
    refine getItem_tuple_rev ht hsl ?_ (by rw [List.size_toArray, ← r.length]; exact hz)
    exact newT_at (t' := s2.toks) I4 r.reverse (by rw [List.length_reverse]; exact hz) q
def cRev (m : Bool) : D → MS → KV2 → Prop
  | .lst ds => fun S Q => newL m ds.reverse S Q
  | .tup ds => fun S Q => Q (.tup ds.reverse) S
  | _ => fun _ _ => False
def wRev (m : Bool) (wa wb : WE) : WE := fun ρ S Q => wa ρ S fun x ρ1 S1 => wb ρ1 S1 fun k ρ2 S2 => k = .int (-1) ∧ cRev m (rd S2 x) S2 fun d S3 => Q d ρ2 S3
theorem re_rev (m : Bool) (h : RE K L ta wa) (h2 : RE K L tb wb) : RE K L (tRevX K ta tb) (wRev m wa wb) := by
  intro F ρ S σ H Q R mt q k
  refine h F ρ S σ H _ _ mt q fun x H1 dx ρ1 S1 F1 e1 m1 r1 q1 => ?_
  refine h2 F1 ρ1 S1 σ H1 _ _ m1 q1 fun y H2 dy ρ2 S2 F2 e2 m2 r2 q2 => ?_
  obtain ⟨ek, q2⟩ := q2
  subst ek
  cases r2
  refine ⟨rfl, ?_⟩
  have rt := rd_ok m2.fs (r1.up e2)
  have k2 : KO K F2 (fun d S4 => Q d ρ2 S4) R := fun v H' d S' F' e x r q => k v H' d ρ2 S' F' ((e1.trans e2).trans e) (m2.step e x) r q
  generalize rd S2 dx = y at rt q2
  cases y <;> first | exact q2.elim | skip
  · obtain ⟨a, vs, rfl, h1, h2, h3⟩ := rt
    exact ⟨a, vs, rfl, .inr ⟨h1, fun p o hp ho => newT_ok k2 m2.fs h2.reverse q2 hp ho⟩⟩
  · obtain ⟨a, vs, rfl, h1, h2⟩ := rt
    exact ⟨a, vs, rfl, .inl ⟨.inl h1, fun p hp => newL_ok k2 m2.fs h2.reverse q2 hp⟩⟩
theorem de_rev (m : Bool) (h : DE X L a ta wa) (h2 : DE X L b tb wb) : DE X L (.Subscript a (.Slice none none (some b) p2) pos) (tRevX X.K ta tb) (wRev m wa wb) :=
  ⟨pe_revX h.pe h2.pe, re_rev m h.re h2.re⟩
/-! ### {} -/
def wDic0 : WE := fun ρ S Q => Q (.dic [] []) ρ S
theorem re_dic0 : RE K L tDNewK wDic0 := by
  intro F ρ S σ H Q R m q k p hp
  obtain ⟨sp, fp⟩ := m.fs.notS hp
  exact k _ _ _ ρ S _ (ExF.new fp) (m.step (ExF.new fp) (m.fs.grow hp)) (.dic upd_same rfl .nil) q
theorem de_dic0 : DE X L (.Dict [] [] pos) tDNewK wDic0 := ⟨pe_dnewK, re_dic0⟩
end
/-! ### the hand: made, then known by what stays true of it -/
def handSp (J : List D → List Int → Addr → Prop) : DSp := fun ds S Q _ => ∃ ns : List Int, ds = [.lst (ns.map D.int)] ∧ (∀ a m, S a = some m → isOpq m = false) ∧ ∀ t, S t = none → Q (.ref t) (S.set t (.opq (opq2 J)))
def handSpO (J : List D → List Int → Addr → Prop) : DSp := fun ds S Q _ => ∃ ns : List Int, ds = [.lst (ns.map D.int)] ∧ ∀ t c xs cells, S t = none → S c = none → c ≠ t → J xs cells c → Q (.ref t) (opened S t c xs cells)
theorem hand_of {P : Program} {w : World} {K : PySem.W.Frag} {mg : Str → Option Value} {base : Heap} {CX : CXT} {k : Nat} {x : Str} {ps : List Str} {J : List D → List Int → Addr → Prop} (hJ : IntRef J) (h : Def P w K mg base CX k x ps (handSpO J)) : Def P w K mg base CX k x ps (handSp J) := by
  obtain ⟨f, fd, F, r⟩ := h.ex
  refine ⟨f, fd, F.imp fun vs H Q E q => ?_, r⟩
  obtain ⟨ds, F0, S, Qd, Ed, fs, rr, ⟨ns, rfl, no, hq⟩, kq, ke⟩ := q
  refine ⟨_, F0, S, fun d S2 => ∃ t c xs cells, d = .ref t ∧ S t = none ∧ S c = none ∧ c ≠ t ∧ J xs cells c ∧ S2 = opened S t c xs cells, Ed, fs, rr, ⟨ns, rfl, fun t c xs cells h1 h2 h3 h4 => ⟨t, c, xs, cells, rfl, h1, h2, h3, h4, rfl⟩⟩, ?_, ke⟩
  rintro v H' d F' S' ex fs' rv ⟨t, c, xs, cells, rfl, h1, h2, h3, h4, rfl⟩
  exact kq v H' _ F' _ ex (fs'.made2 no hJ h1 h2 h3 h4) rv (hq t h1)
/-- made of the store as it is: the cells first, then the thing -/
theorem opened_mk {S : MS} {t c : Addr} {ds : List D} {cells : List Int} (h : c ≠ t) : (S.set c (.lst (cells.map D.int))).set t (.lst ds) = opened S t c ds cells := by
  unfold opened
  rw [MS.set_comm h]
end DL
/-! DL11: the rules with the frag named, for use within comprehensions. -/
namespace DL
open PySem PySem.Spec PyProof.Rows L2
section
variable {X : Cx} {L : Lk} {K : PySem.W.Frag}
theorem op_addK (K : PySem.W.Frag) (hK : X.K = K := by rfl) : OpR X (binaryOp .Add) (rAddA K) := by subst hK; exact op_addA
theorem op_mulK (K : PySem.W.Frag) (hK : X.K = K := by rfl) : OpR X (binaryOp .Mult) (rMulA K) := by subst hK; exact op_mulA
theorem op_eqK (K : PySem.W.Frag) (h : X.A.units + 64 < cLine) (hK : X.K = K := by rfl) : OpR X (compareOp .Eq) (rEqD K) := by subst hK; exact op_eqD h
theorem op_neK (K : PySem.W.Frag) (h : X.A.units + 64 < cLine) (hK : X.K = K := by rfl) : OpR X (compareOp .NotEq) (rNeD K) := by subst hK; exact op_neD h
theorem op_inK (K : PySem.W.Frag) (hK : X.K = K := by rfl) : OpR X (compareOp .In) (rIn K false) := by subst hK; exact op_in_seq
theorem op_notInK (K : PySem.W.Frag) (hK : X.K = K := by rfl) : OpR X (compareOp .NotIn) (rIn K true) := by subst hK; exact op_notIn_seq
theorem call_lenK (K : PySem.W.Frag) (hK : X.K = K := by rfl) : CallR X (.builtin "len") (rLen1 K) := by subst hK; exact call_len
theorem cr_allK (K : PySem.W.Frag) (h : X.calm = true) (hK : X.K = K := by rfl) : CallR X (.builtin "all") (rAll K) := by subst hK; exact cr_all h
theorem cr_anyK (K : PySem.W.Frag) (h : X.calm = true) (hK : X.K = K := by rfl) : CallR X (.builtin "any") (rAny K) := by subst hK; exact cr_any h
theorem call_listK (K : PySem.W.Frag) (hK : X.K = K := by rfl) : CallR X (.type "list") (rListOf K) := by subst hK; exact call_list_of
theorem call_tupleK (K : PySem.W.Frag) (hK : X.K = K := by rfl) : CallR X (.type "tuple") (rTupleOf K) := by subst hK; exact call_tupF
theorem cr_sortedK (K : PySem.W.Frag) (hK : X.K = K := by rfl) : CallR X (.builtin "sorted") (rSortedA K) := by subst hK; exact cr_sortedA
variable {a b e o : Expr} {es : List Expr} {ta tb to : TE} {wa wb wo : DL.WE} {t : TA} {wr : WA} {pos p p2 : Pos}
theorem de_isiK (K : PySem.W.Frag) (T : BT) {x : Str} {q1 : Pos} (hg : Gl X "isinstance") (hm : X.mg "isinstance" = none) (h : DE X L a ta wa) (hmx : X.mg x = none) (hx : x = Str.ofString T.nm := by rfl) (hgx : Gl X x := by rfl) (hn : x ≠ "__name__" := by decide) (hdb : (x == ("__debug__" : Str)) = false := by decide)
    (h6 : starEach [a, Expr.Name x q1] X.env = (false, eval a X.env) :: starEach [Expr.Name x q1] X.env := by rfl) (h7 : starEach [Expr.Name x q1] X.env = (false, eval (Expr.Name x q1) X.env) :: starEach [] X.env := by rfl) (h8 : ((backTo pos (starEach [Expr.Name x q1] X.env)).any fun x => x.fst) = false := by rfl) (hK : X.K = K := by rfl) :
    DE X L ((Expr.Name (Str.ofString "isinstance") p).Call [a, Expr.Name x q1] [] pos) (tCB (rIsi K) (tCons ta (tCons (tC (V.ty T.nm)) tNil))) (wIsi T wa) := by
  subst hK
  exact de_isi T hg hm h hx hgx hmx hn hdb h6 h7 h8
theorem de_isi2K (K : PySem.W.Frag) (T T2 : BT) {x y : Str} {q1 q2 q3 : Pos} {kt : Nat} (hg : Gl X "isinstance") (hm : X.mg "isinstance" = none) (h : DE X L a ta wa) (hmx : X.mg x = none) (hmy : X.mg y = none) (hx : x = Str.ofString T.nm := by rfl) (hy : y = Str.ofString T2.nm := by rfl) (hgx : Gl X x := by rfl) (hgy : Gl X y := by rfl) (hn : x ≠ "__name__" := by decide) (hdb : (x == ("__debug__" : Str)) = false := by decide)
    (hn2 : y ≠ "__name__" := by decide) (hdb2 : (y == ("__debug__" : Str)) = false := by decide)
    (h6 : starEach [a, Expr.Tuple [Expr.Name x q1, Expr.Name y q2] kt q3] X.env = (false, eval a X.env) :: starEach [Expr.Tuple [Expr.Name x q1, Expr.Name y q2] kt q3] X.env := by rfl)
    (h7 : starEach [Expr.Tuple [Expr.Name x q1, Expr.Name y q2] kt q3] X.env = (false, eval (Expr.Tuple [Expr.Name x q1, Expr.Name y q2] kt q3) X.env) :: starEach [] X.env := by rfl)
    (h8 : starEach [Expr.Name x q1, Expr.Name y q2] X.env = (false, eval (Expr.Name x q1) X.env) :: starEach [Expr.Name y q2] X.env := by rfl) (h9 : starEach [Expr.Name y q2] X.env = (false, eval (Expr.Name y q2) X.env) :: starEach [] X.env := by rfl)
    (h10 : ((backTo pos (starEach [Expr.Tuple [Expr.Name x q1, Expr.Name y q2] kt q3] X.env)).any fun x => x.fst) = false := by rfl) (hK : X.K = K := by rfl) :
    DE X L ((Expr.Name (Str.ofString "isinstance") p).Call [a, Expr.Tuple [Expr.Name x q1, Expr.Name y q2] kt q3] [] pos) (tCB (rIsiT K) (tCons ta (tCons (tTup (tCons (tC (V.ty T.nm)) (tCons (tC (V.ty T2.nm)) tNil))) tNil))) (wIsi2 T T2 wa) := by
  subst hK
  exact de_isi2 T T2 hg hm h hx hy hgx hgy hmx hmy hn hdb hn2 hdb2 h6 h7 h8 h9 h10
theorem de_ixK (K : PySem.W.Frag) (ha : DE X L a ta wa) (hb : DE X L b tb wb) (hs : PlainIx b := by exact fun _ _ => rfl) (hK : X.K = K := by rfl) : DE X L (a.Subscript b pos) (tOp (rIx K) ta tb) (wOp wIx wa wb) := by
  subst hK
  exact de_ix ha hb hs
theorem de_slK (K : PySem.W.Frag) (m : Bool) {lo hi : Option Expr} {tl th : TO} {wl wh : WO} (h : DE X L a ta wa) (hl : DO X L lo tl wl) (hh : DO X L hi th wh) (hK : X.K = K := by rfl) : DE X L (.Subscript a (.Slice lo hi none p2) pos) (tSl (rSlA2 K) ta tl th) (wSl m wa wl wh) := by
  subst hK
  exact de_sl m h hl hh
theorem de_revK (K : PySem.W.Frag) (m : Bool) (h : DE X L a ta wa) (h2 : DE X L b tb wb) (hK : X.K = K := by rfl) : DE X L (.Subscript a (.Slice none none (some b) p2) pos) (tRevX K ta tb) (wRev m wa wb) := by
  subst hK
  exact de_rev m h h2
theorem di_seqK (K : PySem.W.Frag) {tg : Expr} (h : DE X L a ta wa) (hK : X.K = K := by rfl) : DI X L tg a (iSeq K ta) (wiSeq wa) := by
  subst hK
  exact di_seq h
theorem di_enumK (K : PySem.W.Frag) {tpos : Pos} {elts : List Expr} {kk : Nat} (hg : Gl X "enumerate") (hm : X.mg "enumerate" = none) (ha : DA X L [e] t wr) (hs : starEach [e] X.env = [(false, eval e X.env)] := by rfl) (hK : X.K = K := by rfl) :
    DI X L (.Tuple elts kk tpos) (.Call (.Name "enumerate" p) [e] [] pos) (iEnumA K t) (wiEnum wr) := by
  subst hK
  exact di_enum hg hm ha hs
theorem di_zipK (K : PySem.W.Frag) {e2 : Expr} {tpos : Pos} {elts : List Expr} {kk : Nat} (hg : Gl X "zip") (hm : X.mg "zip" = none) (ha : DA X L [e, e2] t wr) (hs : starEach [e, e2] X.env = (false, eval e X.env) :: starEach [e2] X.env := by rfl) (hs2 : ((backTo pos (starEach [e2] X.env)).any fun x => x.fst) = false := by rfl) (hK : X.K = K := by rfl) :
    DI X L (.Tuple elts kk tpos) (.Call (.Name "zip" p) [e, e2] [] pos) (RZ.iZipA K t) (wiZip wr) := by
  subst hK
  exact di_zip hg hm ha hs hs2
theorem de_bmK (K : PySem.W.Frag) {T id : String} {name : Str} {apos cpos : Pos} {r : V → List V → Hp → VK → Prop} {wm : D → List D → MS → KV2 → Prop} (pa : PlainAttrs T) (slot : Slot T name id) (hty : typeOf (.builtin id) = pure (.type "method_descriptor")) (hm : MtR X id r) (hr : RM K r wm) (ho : DE X L o to wo) (ha : DA X L (e :: es) t wr)
    (h1 : attributeBase o name X.env (eval o X.env) = eval o X.env := by rfl)
    (h2 : ((((backTo cpos (starEach (e :: es) X.env)).all fun x => !x.fst) && (backToKw cpos (keywordEach [] X.env)).all fun x => x.fst.isSome) && decide (((e :: es).length + ([] : List Keyword).length + if ([] : List Keyword).isEmpty = true then 0 else 1) < 30)) = true := by rfl)
    (h3 : (apos.endLine == cpos.line) = true := by rfl) (h4 : starEach (e :: es) X.env = (false, eval e X.env) :: starEach es X.env := by rfl) (h5 : ((backTo cpos (starEach es X.env)).any fun x => x.fst) = false := by rfl) (hK : X.K = K := by rfl) :
    DE X L ((o.Attribute name apos).Call (e :: es) [] cpos) (tBM K T r to t) (wBM T wm wo wr) := by
  subst hK
  exact de_bm pa slot hty hm hr ho ha h1 h2 h3 h4 h5
theorem de_bm0K (K : PySem.W.Frag) {T id : String} {name : Str} {apos cpos : Pos} {r : V → List V → Hp → VK → Prop} {wm : D → List D → MS → KV2 → Prop} (pa : PlainAttrs T) (slot : Slot T name id) (hty : typeOf (.builtin id) = pure (.type "method_descriptor")) (hm : MtR X id r) (hr : RM K r wm) (ho : DE X L o to wo)
    (h1 : attributeBase o name X.env (eval o X.env) = eval o X.env := by rfl) (h3 : (apos.endLine == cpos.line) = true := by rfl) (hK : X.K = K := by rfl) :
    DE X L ((o.Attribute name apos).Call [] [] cpos) (tBM0 K T r to) (wBM T wm wo wNil) := by
  subst hK
  exact de_bm0 pa slot hty hm hr ho h1 h3
variable {x : Str} {CX : CXT} {k : Nat} {ps : List Str} {sp : DSp}
theorem de_callK (C : Def X.prog X.w K X.mg X.base CX k x ps sp) (hr : RoomG k X.A) (hx : Passes CX X E0) (hg : Gl X x) (ha : DA X L (e :: es) t wr) (hdb : (x == ("__debug__" : Str)) = false := by decide) (he : starEach (e :: es) X.env = (false, eval e X.env) :: starEach es X.env := by rfl) (hpl : (backTo pos (starEach es X.env)).any (·.1) = false := by rfl) (hK : X.K = K := by rfl) :
    DE X L (.Call (.Name x p) (e :: es) [] pos) (tCall (spD K sp) [] E0 t) (wCall sp wr) := by
  subst hK
  exact de_call C hr hx hg ha hdb he hpl
theorem de_call0K (C : Def X.prog X.w K X.mg X.base CX k x ps sp) (hr : RoomG k X.A) (hx : Passes CX X E0) (hg : Gl X x) (hdb : (x == ("__debug__" : Str)) = false := by decide) (hK : X.K = K := by rfl) :
    DE X L (.Call (.Name x p) [] [] pos) (tCall (spD K sp) [] E0 tNil) (wCall sp wNil) := by
  subst hK
  exact de_call0 C hr hx hg hdb
theorem de_callXK (C : Def X.prog X.w K X.mg X.base CX k x ps sp) (hr : RoomG k X.A) (hx : Passes CX X L.E) (hg : Gl X x) (ha : DA X L (e :: es) t wr) (hdb : (x == ("__debug__" : Str)) = false := by decide) (he : starEach (e :: es) X.env = (false, eval e X.env) :: starEach es X.env := by rfl) (hpl : (backTo pos (starEach es X.env)).any (·.1) = false := by rfl) (hK : X.K = K := by rfl) :
    DE X L (.Call (.Name x p) (e :: es) [] pos) (tCall (spD K sp) [] L.E t) (wCallX L sp wr) := by
  subst hK
  exact de_callX C hr hx hg ha hdb he hpl
theorem dg_tupK (K : PySem.W.Frag) {vs : List Nat} {kk : Nat} {g : TGs} {w : WGs} {n : Nat} (hc : X.calm = true) (h : DGs X L vs es g w)
    (hn : (assignEach es X.env).length = n := by rfl) (hst : (assignEach es X.env).findIdx? (·.1) = none := by rfl) (hK : X.K = K := by rfl) : DG X L vs (.Tuple es kk pos) (gTup K n g) (wgTup (lenOk n w)) := by
  subst hK
  exact dg_tup hc h hn hst
end
end DL
/-! DL12: readings by rewriting. -/
namespace DL
open PySem PySem.Spec PyProof.Rows L2
theorem eqD_int {a b : Int} : eqD (.int a) (.int b) = decide (a = b) := by
  simp only [eqD, toPy, PyData.eqv]
  rfl
theorem eqD_bl {a b : Bool} : eqD (.bl a) (.bl b) = (a == b) := by simp [eqD, toPy, PyData.eqv]
theorem eqD_non : eqD .non .non = true := by simp [eqD, toPy, PyData.eqv]
theorem okD_int {a : Int} : okD (.int a) = true := rfl
theorem okD_bl {a : Bool} : okD (.bl a) = true := rfl
theorem okD_non : okD .non = true := rfl
theorem isNon_int {a : Int} : isNon (.int a) = false := rfl
theorem isNon_bl {a : Bool} : isNon (.bl a) = false := rfl
theorem isNon_non : isNon .non = true := rfl
theorem isNon_tup {a : List D} : isNon (.tup a) = false := rfl
theorem isNon_str {a : Str} : isNon (.str a) = false := rfl
theorem isNon_ref {a : Addr} : isNon (.ref a) = false := rfl
theorem isNon_lst {a : List D} : isNon (.lst a) = false := rfl
theorem ex_some_iff {a : D} {p : D → Prop} : (∃ d, some (some a) = some (some d) ∧ p d) ↔ p a := ⟨fun ⟨d, e, h⟩ => by cases e; exact h, fun h => ⟨a, rfl, h⟩⟩
theorem ite_bl {c : Bool} {p q : Prop} (hp : c = true → p) (hq : c = false → q) : if c = true then p else q := by
  cases c
  · rw [if_neg Bool.false_ne_true]; exact hq rfl
  · rw [if_pos rfl]; exact hp rfl
theorem pl_int {a : Int} : plD (.int a) = true := rfl
theorem pl_bl {a : Bool} : plD (.bl a) = true := rfl
theorem pl_non : plD .non = true := rfl
theorem pl_tup {a : List D} : plD (.tup a) = true := rfl
theorem pl_lst {a : List D} : plD (.lst a) = true := rfl
theorem pl_str {a : Str} : plD (.str a) = true := rfl
theorem le_sz {n : Nat} (h : n ≤ 1000000) : n ≤ sizeLine := by rw [sizeLine_eq]; omega
theorem lt_sz {n : Nat} (h : n < 1000000) : n < sizeLine := by rw [sizeLine_eq]; omega
theorem pu_tup {ds : List D} : pu (.tup ds) = pus ds := rfl
theorem pu_lst {ds : List D} : pu (.lst ds) = pus ds := rfl
theorem pu_int {i : Int} : pu (.int i) = true := rfl
theorem pu_bl {i : Bool} : pu (.bl i) = true := rfl
theorem pu_non : pu .non = true := rfl
theorem pus_ints {ns : List Int} : pus (ns.map D.int) = true := by
  induction ns with
  | nil => rfl
  | cons n ns ih => simp [pus, pu, ih]
theorem pus_mem {ds : List D} (h : pus ds = true) {d : D} (m : d ∈ ds) : pu d = true := pus_iff.mp h d m
theorem pus_getD {ds : List D} (h : pus ds = true) (i : Nat) : pu (ds.getD i .non) = true := by
  rw [List.getD_eq_getElem?_getD]
  cases e : ds[i]? with
  | none => rfl
  | some d => exact pus_mem h (List.mem_of_getElem? e)
theorem rd_pu {S : MS} {d : D} (h : pu d = true) : rd S d = d := rd_pl (pl_of_pu h)
theorem atI_nat {ds : List D} {i : Int} {d : D} (h0 : 0 ≤ i) (h : ds[i.toNat]? = some d) : atI ds i = some d := by
  have hl : i.toNat < ds.length := (List.getElem?_eq_some_iff.mp h).1
  unfold atI ixN
  rw [if_pos h0, if_pos (by omega)]
  exact h
theorem atI_lt {ds : List D} {i : Int} (h0 : 0 ≤ i) (h : i < ds.length) : atI ds i = some (ds.getD i.toNat .non) := by
  refine atI_nat h0 ?_
  rw [List.getD_eq_getElem?_getD]
  have : i.toNat < ds.length := by omega
  rw [List.getElem?_eq_getElem this]
  rfl
theorem ex_at_iff {ds : List D} {i : Int} {p : D → Prop} (h0 : 0 ≤ i) (h : i < ds.length) : (∃ d, atI ds i = some d ∧ p d) ↔ p (ds.getD i.toNat .non) := by
  rw [atI_lt h0 h]
  exact ⟨fun ⟨d, e, q⟩ => by cases e; exact q, fun q => ⟨_, rfl, q⟩⟩
theorem cAll_bl {bs : List Bool} {S : MS} {Q : KV2} (q : Q (.bl (bs.all id)) S) : cAll (.lst (bs.map D.bl)) S Q := ⟨bs, rfl, q⟩
theorem cAny_bl {bs : List Bool} {S : MS} {Q : KV2} (q : Q (.bl (bs.any id)) S) : cAny (.lst (bs.map D.bl)) S Q := ⟨bs, rfl, q⟩
theorem map_bl {ds : List D} {f : D → Bool} : ds.map (fun d => D.bl (f d)) = (ds.map f).map D.bl := by rw [List.map_map]; rfl
theorem all_map_id {α : Type} {ds : List α} {f : α → Bool} : (ds.map f).all id = ds.all f := by rw [List.all_map]; rfl
/-! ### what == covers, and what it tells -/
def okL (n : Nat) (d : D) : Bool := (toPy d).canLay0 && decide ((toPy d).depth ≤ n)
theorem okD_L {d : D} : okD d = okL 64 d := rfl
theorem okL_mono {n m : Nat} {d : D} (h : okL n d = true) (l : n ≤ m) : okL m d = true := by
  simp only [okL, Bool.and_eq_true, decide_eq_true_eq] at h ⊢
  exact ⟨h.1, by omega⟩
theorem okL_int {n : Nat} {i : Int} : okL n (.int i) = true := by simp [okL, toPy, PyData.canLay0, PyData.depth]
theorem okL_bl {n : Nat} {i : Bool} : okL n (.bl i) = true := by simp [okL, toPy, PyData.canLay0, PyData.depth]
theorem okL_non {n : Nat} : okL n .non = true := by simp [okL, toPy, PyData.canLay0, PyData.depth]
theorem okL_all {n : Nat} : ∀ {ds : List D}, (∀ d ∈ ds, okL n d = true) → PyData.canLayAll0 (toPys ds) = true ∧ PyData.depthAll (toPys ds) ≤ n
  | [], _ => by simp [toPys, PyData.canLayAll0, PyData.depthAll]
  | d :: ds, h => by
    have h1 := h d List.mem_cons_self
    have h2 := okL_all (n := n) fun x hx => h x (List.mem_cons_of_mem _ hx)
    simp only [okL, Bool.and_eq_true, decide_eq_true_eq] at h1
    simp only [toPys, PyData.canLayAll0, PyData.depthAll, Bool.and_eq_true]
    exact ⟨⟨h1.1, h2.1⟩, by omega⟩
theorem okL_lst {n : Nat} {ds : List D} (h : ∀ d ∈ ds, okL n d = true) : okL (n + 1) (.lst ds) = true := by
  have := okL_all h
  simp only [okL, toPy, PyData.canLay0, PyData.depth, Bool.and_eq_true, decide_eq_true_eq]
  exact ⟨this.1, by omega⟩
theorem okL_tup {n : Nat} {ds : List D} (h : ∀ d ∈ ds, okL n d = true) : okL (n + 1) (.tup ds) = true := by
  have := okL_all h
  simp only [okL, toPy, PyData.canLay0, PyData.depth, Bool.and_eq_true, decide_eq_true_eq]
  exact ⟨this.1, by omega⟩
theorem okD_ints {ns : List Int} : okD (.lst (ns.map D.int)) = true := okL_mono (okL_lst (n := 0) fun d hd => by
  obtain ⟨i, _, rfl⟩ := List.mem_map.mp hd
  exact okL_int) (by decide)
theorem okD_intsT {ns : List Int} : okD (.tup (ns.map D.int)) = true := okL_mono (okL_tup (n := 0) fun d hd => by
  obtain ⟨i, _, rfl⟩ := List.mem_map.mp hd
  exact okL_int) (by decide)
theorem eqD_refl {d : D} (h : okD d = true) : eqD d d = true := SeqAt.eqv_refl _ (SeqAt.canLay_of_shaped h)
theorem eqvAll_ints : ∀ {xs ys : List Int}, PyData.eqvAll (toPys (xs.map D.int)) (toPys (ys.map D.int)) = decide (xs = ys)
  | [], [] => by simp [toPys, PyData.eqvAll]
  | [], y :: ys => by simp [toPys, PyData.eqvAll]
  | x :: xs, [] => by simp [toPys, PyData.eqvAll]
  | x :: xs, y :: ys => by
    have ih := eqvAll_ints (xs := xs) (ys := ys)
    simp only [List.map_cons, toPys, PyData.eqvAll, toPy, PyData.eqv, ih, List.cons.injEq]
    rw [Bool.decide_and]
    rfl
theorem eqD_ints {xs ys : List Int} : eqD (.lst (xs.map D.int)) (.lst (ys.map D.int)) = decide (xs = ys) := by
  simp only [eqD, toPy, PyData.eqv]
  exact eqvAll_ints
theorem eqD_intsT {xs ys : List Int} : eqD (.tup (xs.map D.int)) (.tup (ys.map D.int)) = decide (xs = ys) := by
  simp only [eqD, toPy, PyData.eqv]
  exact eqvAll_ints
/-! ### readings of data of a known shape -/
theorem z_ix_at {ds : List D} {i : Int} {d : D} {S : MS} {Q : KV2} (h : atI ds i = some d) : wIx (.lst ds) (.int i) S Q ↔ Q d S := ⟨fun ⟨x, e, q⟩ => by rw [h] at e; cases e; exact q, fun q => ⟨d, h, q⟩⟩
theorem z_ixt_at {ds : List D} {i : Int} {d : D} {S : MS} {Q : KV2} (h : atI ds i = some d) : wIx (.tup ds) (.int i) S Q ↔ Q d S := ⟨fun ⟨x, e, q⟩ => by rw [h] at e; cases e; exact q, fun q => ⟨d, h, q⟩⟩
theorem atI_lit {l : List D} {d : D} {k : Nat} (h : l[k]? = some d) : atI l ((k : Nat) : Int) = some d := atI_nat (Int.natCast_nonneg k) (by rw [Int.toNat_natCast]; exact h)
theorem z_ix_0 {a0 : D} {l : List D} {S : MS} {Q : KV2} : wIx (.lst (a0 :: l)) (.int 0) S Q ↔ Q a0 S := z_ix_at (atI_lit (k := 0) rfl)
theorem z_ixt_0 {a0 : D} {l : List D} {S : MS} {Q : KV2} : wIx (.tup (a0 :: l)) (.int 0) S Q ↔ Q a0 S := z_ixt_at (atI_lit (k := 0) rfl)
theorem z_ix_1 {a0 a1 : D} {l : List D} {S : MS} {Q : KV2} : wIx (.lst (a0 :: a1 :: l)) (.int 1) S Q ↔ Q a1 S := z_ix_at (atI_lit (k := 1) rfl)
theorem z_ixt_1 {a0 a1 : D} {l : List D} {S : MS} {Q : KV2} : wIx (.tup (a0 :: a1 :: l)) (.int 1) S Q ↔ Q a1 S := z_ixt_at (atI_lit (k := 1) rfl)
theorem z_ix_2 {a0 a1 a2 : D} {l : List D} {S : MS} {Q : KV2} : wIx (.lst (a0 :: a1 :: a2 :: l)) (.int 2) S Q ↔ Q a2 S := z_ix_at (atI_lit (k := 2) rfl)
theorem z_ixt_2 {a0 a1 a2 : D} {l : List D} {S : MS} {Q : KV2} : wIx (.tup (a0 :: a1 :: a2 :: l)) (.int 2) S Q ↔ Q a2 S := z_ixt_at (atI_lit (k := 2) rfl)
theorem z_ix_3 {a0 a1 a2 a3 : D} {l : List D} {S : MS} {Q : KV2} : wIx (.lst (a0 :: a1 :: a2 :: a3 :: l)) (.int 3) S Q ↔ Q a3 S := z_ix_at (atI_lit (k := 3) rfl)
theorem z_ixt_3 {a0 a1 a2 a3 : D} {l : List D} {S : MS} {Q : KV2} : wIx (.tup (a0 :: a1 :: a2 :: a3 :: l)) (.int 3) S Q ↔ Q a3 S := z_ixt_at (atI_lit (k := 3) rfl)
theorem z_ix_4 {a0 a1 a2 a3 a4 : D} {l : List D} {S : MS} {Q : KV2} : wIx (.lst (a0 :: a1 :: a2 :: a3 :: a4 :: l)) (.int 4) S Q ↔ Q a4 S := z_ix_at (atI_lit (k := 4) rfl)
theorem z_ixt_4 {a0 a1 a2 a3 a4 : D} {l : List D} {S : MS} {Q : KV2} : wIx (.tup (a0 :: a1 :: a2 :: a3 :: a4 :: l)) (.int 4) S Q ↔ Q a4 S := z_ixt_at (atI_lit (k := 4) rfl)
theorem z_ix_5 {a0 a1 a2 a3 a4 a5 : D} {l : List D} {S : MS} {Q : KV2} : wIx (.lst (a0 :: a1 :: a2 :: a3 :: a4 :: a5 :: l)) (.int 5) S Q ↔ Q a5 S := z_ix_at (atI_lit (k := 5) rfl)
theorem z_ixt_5 {a0 a1 a2 a3 a4 a5 : D} {l : List D} {S : MS} {Q : KV2} : wIx (.tup (a0 :: a1 :: a2 :: a3 :: a4 :: a5 :: l)) (.int 5) S Q ↔ Q a5 S := z_ixt_at (atI_lit (k := 5) rfl)
theorem z_ix_6 {a0 a1 a2 a3 a4 a5 a6 : D} {l : List D} {S : MS} {Q : KV2} : wIx (.lst (a0 :: a1 :: a2 :: a3 :: a4 :: a5 :: a6 :: l)) (.int 6) S Q ↔ Q a6 S := z_ix_at (atI_lit (k := 6) rfl)
theorem z_ixt_6 {a0 a1 a2 a3 a4 a5 a6 : D} {l : List D} {S : MS} {Q : KV2} : wIx (.tup (a0 :: a1 :: a2 :: a3 :: a4 :: a5 :: a6 :: l)) (.int 6) S Q ↔ Q a6 S := z_ixt_at (atI_lit (k := 6) rfl)
theorem z_ix_7 {a0 a1 a2 a3 a4 a5 a6 a7 : D} {l : List D} {S : MS} {Q : KV2} : wIx (.lst (a0 :: a1 :: a2 :: a3 :: a4 :: a5 :: a6 :: a7 :: l)) (.int 7) S Q ↔ Q a7 S := z_ix_at (atI_lit (k := 7) rfl)
theorem z_ixt_7 {a0 a1 a2 a3 a4 a5 a6 a7 : D} {l : List D} {S : MS} {Q : KV2} : wIx (.tup (a0 :: a1 :: a2 :: a3 :: a4 :: a5 :: a6 :: a7 :: l)) (.int 7) S Q ↔ Q a7 S := z_ixt_at (atI_lit (k := 7) rfl)
theorem z_ix_8 {a0 a1 a2 a3 a4 a5 a6 a7 a8 : D} {l : List D} {S : MS} {Q : KV2} : wIx (.lst (a0 :: a1 :: a2 :: a3 :: a4 :: a5 :: a6 :: a7 :: a8 :: l)) (.int 8) S Q ↔ Q a8 S := z_ix_at (atI_lit (k := 8) rfl)
theorem z_ixt_8 {a0 a1 a2 a3 a4 a5 a6 a7 a8 : D} {l : List D} {S : MS} {Q : KV2} : wIx (.tup (a0 :: a1 :: a2 :: a3 :: a4 :: a5 :: a6 :: a7 :: a8 :: l)) (.int 8) S Q ↔ Q a8 S := z_ixt_at (atI_lit (k := 8) rfl)
theorem z_ix_lt {ds : List D} {i : Int} {S : MS} {Q : KV2} (h0 : 0 ≤ i) (h : i < ds.length) : wIx (.lst ds) (.int i) S Q ↔ Q (ds.getD i.toNat .non) S := z_ix_at (atI_lt h0 h)
theorem z_ixt_lt {ds : List D} {i : Int} {S : MS} {Q : KV2} (h0 : 0 ≤ i) (h : i < ds.length) : wIx (.tup ds) (.int i) S Q ↔ Q (ds.getD i.toNat .non) S := z_ixt_at (atI_lt h0 h)
theorem z_add_int {i j : Int} {m : Bool} {S : MS} {Q : KV2} : wAdd m (.int i) (.int j) S Q ↔ Q (.int (i + j)) S := Iff.rfl
theorem z_add_tup {i j : List D} {m : Bool} {S : MS} {Q : KV2} : wAdd m (.tup i) (.tup j) S Q ↔ i.length + j.length ≤ sizeLine ∧ Q (.tup (i ++ j)) S := Iff.rfl
theorem z_add_lst {i j : List D} {m : Bool} {S : MS} {Q : KV2} : wAdd m (.lst i) (.lst j) S Q ↔ i.length + j.length ≤ sizeLine ∧ newL m (i ++ j) S Q := Iff.rfl
theorem z_add_str {i j : Str} {m : Bool} {S : MS} {Q : KV2} : wAdd m (.str i) (.str j) S Q ↔ i.length + j.length ≤ sizeLine ∧ Q (.str (i ++ j)) S := Iff.rfl
theorem z_mul_int {i j : Int} {m : Bool} {S : MS} {Q : KV2} : wMul m (.int i) (.int j) S Q ↔ CMul i j ∧ Q (.int (i * j)) S := Iff.rfl
theorem z_mul_tup {xs : List D} {k : Int} {m : Bool} {S : MS} {Q : KV2} : wMul m (.tup xs) (.int k) S Q ↔ (1 ≤ k ∧ k ≤ 1000 ∧ xs.length ≤ 1000) ∧ Q (.tup (List.replicate k.toNat xs).flatten) S := Iff.rfl
theorem z_mul_lst {xs : List D} {k : Int} {m : Bool} {S : MS} {Q : KV2} : wMul m (.lst xs) (.int k) S Q ↔ (-(2 ^ 63) ≤ k ∧ k < 2 ^ 63 ∧ xs.length * k.toNat ≤ sizeLine) ∧ newL m (List.replicate k.toNat xs).flatten S Q := Iff.rfl
theorem z_ib_int {g : Int → Int → Bool} {i j : Int} {S : MS} {Q : KV2} : wIB g (.int i) (.int j) S Q ↔ Q (.bl (g i j)) S := Iff.rfl
theorem z_ii_int {C : Int → Int → Prop} {g : Int → Int → Int} {i j : Int} {S : MS} {Q : KV2} : wII C g (.int i) (.int j) S Q ↔ C i j ∧ Q (.int (g i j)) S := Iff.rfl
theorem z_neg_int {i : Int} {S : MS} {Q : KV2} : wNeg (.int i) S Q ↔ Q (.int (-i)) S := Iff.rfl
theorem z_len_lst {ds : List D} {S : MS} {Q : KV2} : cLen (.lst ds) S Q ↔ Q (.int ds.length) S := Iff.rfl
theorem z_len_tup {ds : List D} {S : MS} {Q : KV2} : cLen (.tup ds) S Q ↔ Q (.int ds.length) S := Iff.rfl
theorem z_len_str {z : Str} {S : MS} {Q : KV2} : cLen (.str z) S Q ↔ z.length ≤ sizeLine ∧ Q (.int z.length) S := Iff.rfl
theorem z_abs_int {i : Int} {S : MS} {Q : KV2} : cAbs (.int i) S Q ↔ Q (.int (if i < 0 then -i else i)) S := Iff.rfl
theorem z_int_int {i : Int} {S : MS} {Q : KV2} : cInt (.int i) S Q ↔ Q (.int i) S := Iff.rfl
theorem z_cii_int {g : Int → Int → Int} {i j : Int} {S : MS} {Q : KV2} : cII g (.int i) (.int j) S Q ↔ Q (.int (g i j)) S := Iff.rfl
theorem z_tuple_lst {ds : List D} {S : MS} {Q : KV2} : cTuple (.lst ds) S Q ↔ Q (.tup ds) S := Iff.rfl
theorem z_tuple_tup {ds : List D} {S : MS} {Q : KV2} : cTuple (.tup ds) S Q ↔ Q (.tup ds) S := Iff.rfl
theorem z_list_lst {m : Bool} {ds : List D} {S : MS} {Q : KV2} : cList m (.lst ds) S Q ↔ newL m ds S Q := Iff.rfl
theorem z_list_tup {m : Bool} {ds : List D} {S : MS} {Q : KV2} : cList m (.tup ds) S Q ↔ newL m ds S Q := Iff.rfl
theorem z_cut_lst {m : Bool} {lo hi : Option Int} {ds : List D} {S : MS} {Q : KV2} : wCut m lo hi (.lst ds) S Q ↔ newL m (cutD ds lo hi) S Q := Iff.rfl
theorem z_cut_tup {m : Bool} {lo hi : Option Int} {ds : List D} {S : MS} {Q : KV2} : wCut m lo hi (.tup ds) S Q ↔ Q (.tup (cutD ds lo hi)) S := Iff.rfl
theorem z_rev_lst {m : Bool} {ds : List D} {S : MS} {Q : KV2} : cRev m (.lst ds) S Q ↔ newL m ds.reverse S Q := Iff.rfl
theorem z_rev_tup {m : Bool} {ds : List D} {S : MS} {Q : KV2} : cRev m (.tup ds) S Q ↔ Q (.tup ds.reverse) S := Iff.rfl
theorem z_isN_ {x : D} {S : MS} {Q : KV2} : wIsN x .non S Q ↔ Q (.bl (isNon x)) S := by cases x <;> exact Iff.rfl
theorem z_notN_ {x : D} {S : MS} {Q : KV2} : wNotN x .non S Q ↔ Q (.bl (!isNon x)) S := by cases x <;> exact Iff.rfl
theorem z_isB_ {a b : Bool} {S : MS} {Q : KV2} : wIsB (.bl a) (.bl b) S Q ↔ Q (.bl (decide (a = b))) S := Iff.rfl
theorem z_notB_ {a b : Bool} {S : MS} {Q : KV2} : wNotB (.bl a) (.bl b) S Q ↔ Q (.bl (!decide (a = b))) S := Iff.rfl
theorem z_w1_ {f : D → MS → KV2 → Prop} {d : D} {S : MS} {Q : KV2} : w1 f [d] S Q ↔ f (rd S d) S Q := Iff.rfl
theorem z_w2_ {f : D → D → MS → KV2 → Prop} {d e : D} {S : MS} {Q : KV2} : w2 f [d, e] S Q ↔ f (rd S d) (rd S e) S Q := Iff.rfl
theorem z_in_lst {neg : Bool} {x : D} {ds : List D} {S : MS} {Q : KV2} : wIn neg x (.lst ds) S Q ↔ flatD x = true ∧ ds.all flatD = true ∧ Q (.bl (if neg then !inD x ds else inD x ds)) S := by cases x <;> exact Iff.rfl
theorem z_in_tup {neg : Bool} {x : D} {ds : List D} {S : MS} {Q : KV2} : wIn neg x (.tup ds) S Q ↔ flatD x = true ∧ ds.all flatD = true ∧ Q (.bl (if neg then !inD x ds else inD x ds)) S := by cases x <;> exact Iff.rfl
theorem z_isK_int_int {i : Int} : isK .int (.int i) = true := rfl
theorem z_isK_int_bl {i : Bool} : isK .int (.bl i) = true := rfl
theorem z_isK_int_str {i : Str} : isK .int (.str i) = false := rfl
theorem z_isK_int_tup {i : List D} : isK .int (.tup i) = false := rfl
theorem z_isK_int_lst {i : List D} : isK .int (.lst i) = false := rfl
theorem z_isK_int_dic {k : List Key} {i : List D} : isK .int (.dic k i) = false := rfl
theorem z_isK_int_non : isK .int .non = false := rfl
theorem z_isK_bool_int {i : Int} : isK .bool (.int i) = false := rfl
theorem z_isK_bool_bl {i : Bool} : isK .bool (.bl i) = true := rfl
theorem z_isK_bool_str {i : Str} : isK .bool (.str i) = false := rfl
theorem z_isK_bool_tup {i : List D} : isK .bool (.tup i) = false := rfl
theorem z_isK_bool_lst {i : List D} : isK .bool (.lst i) = false := rfl
theorem z_isK_bool_dic {k : List Key} {i : List D} : isK .bool (.dic k i) = false := rfl
theorem z_isK_bool_non : isK .bool .non = false := rfl
theorem z_isK_str_int {i : Int} : isK .str (.int i) = false := rfl
theorem z_isK_str_bl {i : Bool} : isK .str (.bl i) = false := rfl
theorem z_isK_str_str {i : Str} : isK .str (.str i) = true := rfl
theorem z_isK_str_tup {i : List D} : isK .str (.tup i) = false := rfl
theorem z_isK_str_lst {i : List D} : isK .str (.lst i) = false := rfl
theorem z_isK_str_dic {k : List Key} {i : List D} : isK .str (.dic k i) = false := rfl
theorem z_isK_str_non : isK .str .non = false := rfl
theorem z_isK_tuple_int {i : Int} : isK .tuple (.int i) = false := rfl
theorem z_isK_tuple_bl {i : Bool} : isK .tuple (.bl i) = false := rfl
theorem z_isK_tuple_str {i : Str} : isK .tuple (.str i) = false := rfl
theorem z_isK_tuple_tup {i : List D} : isK .tuple (.tup i) = true := rfl
theorem z_isK_tuple_lst {i : List D} : isK .tuple (.lst i) = false := rfl
theorem z_isK_tuple_dic {k : List Key} {i : List D} : isK .tuple (.dic k i) = false := rfl
theorem z_isK_tuple_non : isK .tuple .non = false := rfl
theorem z_isK_list_int {i : Int} : isK .list (.int i) = false := rfl
theorem z_isK_list_bl {i : Bool} : isK .list (.bl i) = false := rfl
theorem z_isK_list_str {i : Str} : isK .list (.str i) = false := rfl
theorem z_isK_list_tup {i : List D} : isK .list (.tup i) = false := rfl
theorem z_isK_list_lst {i : List D} : isK .list (.lst i) = true := rfl
theorem z_isK_list_dic {k : List Key} {i : List D} : isK .list (.dic k i) = false := rfl
theorem z_isK_list_non : isK .list .non = false := rfl
theorem z_isK_dict_int {i : Int} : isK .dict (.int i) = false := rfl
theorem z_isK_dict_bl {i : Bool} : isK .dict (.bl i) = false := rfl
theorem z_isK_dict_str {i : Str} : isK .dict (.str i) = false := rfl
theorem z_isK_dict_tup {i : List D} : isK .dict (.tup i) = false := rfl
theorem z_isK_dict_lst {i : List D} : isK .dict (.lst i) = false := rfl
theorem z_isK_dict_dic {k : List Key} {i : List D} : isK .dict (.dic k i) = true := rfl
theorem z_isK_dict_non : isK .dict .non = false := rfl
theorem z_items_lst {S : MS} {ds : List D} : itemsOf S (.lst ds) = some (ds, noG) := rfl
theorem z_items_tup {S : MS} {ds : List D} : itemsOf S (.tup ds) = some (ds, noG) := rfl
theorem z_items_ref {S : MS} {a : Addr} {ds : List D} (h : S a = some (.lst ds)) : itemsOf S (.ref a) = some (ds, fun S' => S' a = some (.lst ds)) := by
  simp only [itemsOf, h]
theorem z_tyd_lst {ds : List D} : TyD "list" (.lst ds) ↔ True := ⟨fun _ => trivial, fun _ => rfl⟩
theorem z_rd_set {S : MS} {a : Addr} {ds : List D} : rd (S.set a (.lst ds)) (.ref a) = .lst ds := rd_ref MS.set_same
theorem z_rd_opt {S : MS} {t c : Addr} {ds : List D} {cs : List Int} (h : c ≠ t) : rd (opened S t c ds cs) (.ref t) = .lst ds := rd_ref (by unfold opened; rw [MS.set_ne (Ne.symm h), MS.set_same])
theorem z_rd_opc {S : MS} {t c : Addr} {ds : List D} {cs : List Int} : rd (opened S t c ds cs) (.ref c) = .lst (cs.map D.int) := rd_ref MS.set_same
theorem op_t {S : MS} {t c : Addr} {ds : List D} {cs : List Int} (h : c ≠ t) : (opened S t c ds cs) t = some (.lst ds) := by unfold opened; rw [MS.set_ne (Ne.symm h), MS.set_same]
theorem op_set {S : MS} {t c : Addr} {ds es : List D} {cs : List Int} (h : c ≠ t) : (opened S t c ds cs).set t (.lst es) = opened S t c es cs := by
  unfold opened
  rw [MS.set_comm h, MS.set_set]
theorem setL_op {S : MS} {t c : Addr} {ds : List D} {cs : List Int} {k : Int} {v : D} {Q : MS → Prop} {j : Nat} (h : c ≠ t) (hj : ixN ds.length k = some j) (q : Q (opened S t c (ds.set j v) cs)) : wSetL (.ref t) (.int k) v (opened S t c ds cs) Q :=
  ⟨t, ds, k, j, rfl, rfl, op_t h, hj, by rw [op_set h]; exact q⟩
theorem setL_op_iff {S : MS} {t c : Addr} {ds : List D} {cs : List Int} {k : Int} {v : D} {Q : MS → Prop} {j : Nat} (h : c ≠ t) (hj : ixN ds.length k = some j) : wSetL (.ref t) (.int k) v (opened S t c ds cs) Q ↔ Q (opened S t c (ds.set j v) cs) := by
  refine ⟨fun ⟨a, es, k', j', e1, e2, e3, e4, q⟩ => ?_, setL_op h hj⟩
  cases e1
  cases e2
  rw [op_t h] at e3
  cases e3
  rw [hj] at e4
  cases e4
  rw [op_set h] at q
  exact q
theorem z_app_iff {S : MS} {a : Addr} {ds : List D} {d : D} {Q : KV2} (h : S a = some (.lst ds)) : wAppend (.ref a) [d] S Q ↔ ds.length < sizeLine ∧ Q .non (S.set a (.lst (ds ++ [d]))) := by
  refine ⟨fun ⟨b, es, x, e1, e2, e3, q⟩ => ?_, fun q => ⟨a, ds, d, rfl, rfl, h, q⟩⟩
  cases e1
  cases e2
  rw [h] at e3
  cases e3
  exact q
theorem cutD_to {xs : List D} {k : Int} (h : 0 ≤ k) : cutD xs none (some k) = xs.take k.toNat := by
  simp only [cutD, HT.sIx]
  rw [if_neg (by omega), List.drop_zero, Nat.sub_zero, Nat.min_def]
  by_cases h1 : k.toNat ≤ xs.length
  · rw [if_pos h1]
  · rw [if_neg h1, List.take_of_length_le (Nat.le_refl _), List.take_of_length_le (by omega)]
theorem cutD_from {xs : List D} {k : Int} (h : 0 ≤ k) : cutD xs (some k) none = xs.drop k.toNat := by
  simp only [cutD, HT.sIx]
  rw [if_neg (by omega), Nat.min_def]
  by_cases h1 : k.toNat ≤ xs.length
  · rw [if_pos h1, List.take_of_length_le (by rw [List.length_drop]; exact Nat.le_refl _)]
  · rw [if_neg h1, List.drop_length, List.drop_eq_nil_of_le (by omega)]
    simp
theorem cutD_init {xs : List D} : cutD xs none (some (-1)) = xs.dropLast := by
  simp only [cutD, HT.sIx]
  rw [if_pos (by decide), List.drop_zero, Nat.sub_zero, List.dropLast_eq_take]
  congr 1
  omega
theorem pus_take {xs : List D} (n : Nat) (h : pus xs = true) : pus (xs.take n) = true := pus_iff.mpr fun d hd => pus_mem h (List.mem_of_mem_take hd)
theorem pus_drop {xs : List D} (n : Nat) (h : pus xs = true) : pus (xs.drop n) = true := pus_iff.mpr fun d hd => pus_mem h (List.mem_of_mem_drop hd)
theorem pus_cut {xs : List D} {lo hi : Option Int} (h : pus xs = true) : pus (cutD xs lo hi) = true := pus_take _ (pus_drop _ h)
theorem pus_rev {xs : List D} (h : pus xs = true) : pus xs.reverse = true := pus_iff.mpr fun d hd => pus_mem h (List.mem_reverse.mp hd)
theorem pus_rep {xs : List D} {n : Nat} (h : pus xs = true) : pus (List.replicate n xs).flatten = true := pus_iff.mpr fun d hd => by
  obtain ⟨l, hl, hd⟩ := List.mem_flatten.mp hd
  rw [List.eq_of_mem_replicate hl] at hd
  exact pus_mem h hd
theorem pus_app {xs ys : List D} (h : pus xs = true) (g : pus ys = true) : pus (xs ++ ys) = true := by rw [pus_append, h, g]; rfl
theorem cutD_len (xs : List D) (lo hi : Option Int) : (cutD xs lo hi).length ≤ xs.length := by
  unfold cutD
  rw [List.length_take, List.length_drop]
  omega
theorem rep_len {α : Type} (n : Nat) (xs : List α) : (List.replicate n xs).flatten.length = n * xs.length := by simp
theorem rd_set_ne {S : MS} {a b : Addr} {m : MO} (h : a ≠ b) : rd (S.set b m) (.ref a) = rd S (.ref a) := by
  show rdM a ((S.set b m) a) = rdM a (S a)
  rw [MS.set_ne h]
theorem getD_map_int {l : List Int} {i : Nat} (h : i < l.length) : (l.map D.int).getD i .non = .int (l.getD i 0) := by
  rw [List.getD_eq_getElem?_getD, List.getD_eq_getElem?_getD, List.getElem?_map, List.getElem?_eq_getElem h]
  rfl
theorem map_eraseIdx {α β : Type} (f : α → β) (l : List α) (i : Nat) : (l.map f).eraseIdx i = (l.eraseIdx i).map f := by
  rw [List.eraseIdx_eq_take_drop_succ, List.eraseIdx_eq_take_drop_succ, List.map_append, List.map_take, List.map_drop]
theorem perm_erase {α : Type} {l : List α} {i : Nat} (h : i < l.length) : ([l[i]] ++ l.eraseIdx i).Perm l := by
  rw [List.eraseIdx_eq_take_drop_succ]
  refine (List.perm_middle (l₁ := l.take i)).symm.trans ?_
  rw [← List.drop_eq_getElem_cons h, List.take_append_drop]
theorem perm_of_nodup {is : List Int} {n : Nat} (h1 : is.Nodup) (h2 : ∀ l ∈ is, 0 ≤ l ∧ l < n) (h3 : is.length = n) : is.Perm ((List.range n).map fun (i : Nat) => (i : Int)) := by
  have hr : ((List.range n).map fun (i : Nat) => (i : Int)).Nodup := by
    rw [List.nodup_iff_pairwise_ne, List.pairwise_map]
    exact List.Pairwise.imp (fun h => by omega) List.pairwise_lt_range
  have hm : ∀ a : Int, a ∈ ((List.range n).map fun (i : Nat) => (i : Int)) ↔ 0 ≤ a ∧ a < n := fun a => by
    constructor
    · intro h
      obtain ⟨i, hi, rfl⟩ := List.mem_map.mp h
      have := List.mem_range.mp hi
      omega
    · intro h
      exact List.mem_map.mpr ⟨a.toNat, List.mem_range.mpr (by omega), by omega⟩
  refine (List.perm_ext_iff_of_nodup h1 hr).mpr fun a => ⟨fun h => (hm a).mpr (h2 a h), fun h => ?_⟩
  refine Classical.byContradiction fun hn => ?_
  have h4 : (a :: is).Nodup := List.nodup_cons.mpr ⟨hn, h1⟩
  have h5 := List.Nodup.length_le_of_subset h4 (l₂ := (List.range n).map fun (i : Nat) => (i : Int)) fun x hx => by
    rcases List.mem_cons.mp hx with e | e
    · rw [e]; exact h
    · exact (hm x).mpr (h2 x e)
  rw [List.length_cons, List.length_map, List.length_range, h3] at h5
  omega
theorem inD_ints {l : Int} {is : List Int} : inD (.int l) (is.map D.int) = decide (l ∈ is) := by
  unfold inD
  rw [List.any_map]
  induction is with
  | nil => rfl
  | cons a is ih =>
    rw [List.any_cons, ih]
    show (eqD (.int a) (.int l) || decide (l ∈ is)) = _
    rw [eqD_int]
    by_cases e : a = l
    · simp [e]
    · simp [e, Ne.symm e, eq_comm]
theorem flat_ints {is : List Int} : (is.map D.int).all flatD = true := by
  rw [List.all_map]
  exact List.all_eq_true.mpr fun _ _ => rfl
theorem flat_int {i : Int} : flatD (.int i) = true := rfl
theorem rangeD_mem {lo : Int} {n : Nat} {d : D} (h : d ∈ rangeD lo n) : ∃ i : Nat, i < n ∧ d = .int (lo + (i : Nat)) := by
  obtain ⟨i, hi, rfl⟩ := List.mem_map.mp h
  exact ⟨i, List.mem_range.mp hi, rfl⟩
theorem pus_repl {d : D} {n : Nat} (h : pu d = true) : pus (List.replicate n d) = true := pus_iff.mpr fun x hx => by
  rw [List.eq_of_mem_replicate hx]
  exact h
end DL
/-! DL13: the head: what the top leaves, no list among it; the law's promise. -/
namespace DL
open PySem PySem.Spec PyProof.Rows L2
def frN (g : Addr → Option Obj) (as : List Addr) : PySem.W.Frag := (He.frG g as).filter fun p => !(p.2.cls == Value.type "list")
theorem lookup_mem {α β : Type} [BEq α] [LawfulBEq α] {b : α} {o : β} : ∀ {l : List (α × β)}, l.lookup b = some o → (b, o) ∈ l
  | [], h => by cases h
  | (a, c) :: l, h => by
    rw [List.lookup_cons] at h
    by_cases e : (b == a) = true
    · rw [e] at h
      cases h
      rw [eq_of_beq e]
      exact List.mem_cons_self
    · rw [Bool.eq_false_iff.mpr e] at h
      exact List.mem_cons_of_mem _ (lookup_mem h)
theorem frN_in {g : Addr → Option Obj} {as : List Addr} {b : Addr} {o : Obj} (h : (frN g as).lookup b = some o) : g b = some o ∧ (o.cls == Value.type "list") = false := by
  have m := lookup_mem h
  obtain ⟨m1, m2⟩ := List.mem_filter.mp m
  obtain ⟨a, _, e⟩ := List.mem_filterMap.mp m1
  cases hg : g a with
  | none => rw [hg] at e; cases e
  | some u =>
    rw [hg] at e
    cases e
    exact ⟨hg, by simpa using m2⟩
def NoL (K : PySem.W.Frag) : Prop := ∀ b o, K.lookup b = some o → (o.cls == Value.type "list") = false
def obsN (n : Nat) (fa : List He.Fa) (fn : List He.DefD) (g : Addr → Option Obj) : He.AlD := He.obsD fa fn (frN g (He.asD g n))
def hookN (n : Nat) (fa : List He.Fa) (fn : List He.DefD) : PySem.W.Hook where
  α := He.AlD
  obs := fun s => obsN n fa fn s.heap.get?
  val := fun _ => He.valD fn
  says := fun _ h => ∃ K : PySem.W.Frag, K.In h ∧ He.SaysD fa fn K ∧ NoL K
  of := fun _ _ e => ⟨_, fun b o h => (frN_in h).1, e, fun b o h => (frN_in h).2⟩
  keeps := fun _ _ _ ⟨K, hK, c⟩ k => ⟨K, PySem.W.Frag.In.keeps hK k, c⟩
theorem obsN_eq {n : Nat} {fa : List He.Fa} {fn : List He.DefD} {g : Addr → Option Obj} {s : Shared} (h : ∀ a, g a = s.heap.get? a) : obsN n fa fn g = (hookN n fa fn).obs s := by
  have e : g = s.heap.get? := funext h
  rw [e] <;> rfl
/-- the law's promise: any script in, True out -/
def lawSp (n : Nat) : DSp := fun ds S Q _ => ∃ ns : List Int, ds = [.lst (ns.map D.int)] ∧ ns.length ≤ n ∧ (∀ a, S a = none) ∧ Q (.bl true) S
theorem law_sp {K : PySem.W.Frag} {n : Nat} {sp : DSp} (hsp : ∀ ds S Q E, lawSp n ds S Q E → sp ds S Q E) (nl : NoL K) {H : Hp} {a : Addr} {ns : List Int} (hl : ns.length ≤ n) (hS : SqL K H a (ns.map V.int)) :
    spD K sp [.ref a] H (fun v _ => v = .bl true) fun _ _ _ => False := by
  have hr : Rd H a (.lst (ns.map V.int)) := by
    rcases hS with h | ⟨o, its, k, lk, hc, _⟩
    · exact h
    · have := nl a o lk
      rw [hc] at this
      exact absurd this (by decide)
  refine ⟨[.lst (ns.map D.int)], H, fun _ => none, fun d _ => d = .bl true, fun _ _ _ => False, ⟨fun _ _ h => h, (by intro a m h; cases h), (by intro a b m n h; cases h)⟩, .cons (.lst hr (.of_ints ns)) .nil, hsp _ _ _ _ ⟨ns, rfl, hl, fun _ => rfl, rfl⟩, ?_, fun _ _ _ _ _ _ _ _ _ _ h => h.elim⟩
  rintro v H' d F' S' _ _ r rfl
  cases r
  rfl
theorem walk_law {l : PySem.W.OpenLaw} {n m k : Nat} {q : Program} {loose : List Str} {XP : (Str → Option Value) → Heap → Prop} {d : DefRec} {fa : List He.Fa} {fn : List He.DefD} {sp : DSp} (hn : l.most = some n) (hn2 : n ≤ sizeLine) (hdf : d.params.defaults = []) (hr : Room k callerA) (hd : d.name = ("law" : Str))
    (hsp : ∀ ds S Q E, lawSp n ds S Q E → sp ds S Q E)
    (D : ∀ (w : World) (K : PySem.W.Frag) (mg : Str → Option Value) (h : Heap), K.In h → h.Ns mainGlobals mg → He.SaysD fa fn K → ∃ f fd, mg "law" = some (.ref f) ∧ (∀ (s : Shared) (u : Value), BindsTo s fd ⟨[u], []⟩ [("script", u)]) ∧ ∀ base : Heap, FnG l.prog w K mg base CX0 k f fd ["script"] (spD K sp)) :
    PySem.W.WalkO q loose XP (hookN m fa fn).says l.row.toRowW d [] (fun f vs => PySem.call f vs) := by
  refine walk_ofG (n := n) (k := k) (x := "script") (CX := L2.CX0) hn hn2 hdf hr ?_ (fun _ _ _ _ z => z)
  intro w mg fa' h Y G hmg
  obtain ⟨K, KX, c, nl⟩ := Y
  rw [hd] at hmg
  obtain ⟨f, fd, hm, hb, hF⟩ := D w K mg h KX G c
  rw [hm] at hmg
  cases hmg
  exact ⟨K, fd, spD K sp, KX, hb, fun H a ns hl _ hS => law_sp hsp nl hl hS, fun base _ _ => hF base⟩
end DL
/-! DL14: instances of own classes: attributes, methods, making. -/
namespace DL
open PySem PySem.Spec PyProof.Rows L2
def fldD (f : Str) : List Str → List D → Option D
  | n :: ns, d :: ds => if n = f then some d else fldD f ns ds
  | _, _ => none
def putD (f : Str) (v : D) : List Str → List D → List Str × List D
  | n :: ns, d :: ds => if n = f then (n :: ns, v :: ds) else (n :: (putD f v ns ds).1, d :: (putD f v ns ds).2)
  | _, _ => ([f], [v])
section
variable {K : PySem.W.Frag} {F F' H H' : Hp} {S : MS}
theorem reps_fld {f : Str} : ∀ {fs : List (Str × V)} {ds : List D} {d : D}, Reps K F ds (fs.map (·.2)) → fldD f (fs.map (·.1)) ds = some d → ∃ v, fs.lookup f = some v ∧ Rep K F d v
  | [], ds, d, r, e => by
    cases ds <;> simp [fldD] at e
  | (n, v) :: fs, [], d, r, e => by simp [fldD] at e
  | (n, v) :: fs, x :: ds, d, r, e => by
    cases r with
    | cons r1 r2 =>
      simp only [List.map_cons, fldD] at e
      by_cases h : n = f
      · rw [if_pos h] at e
        cases e
        refine ⟨v, ?_, r1⟩
        rw [List.lookup_cons, h, beq_self_eq_true]
      · rw [if_neg h] at e
        obtain ⟨u, h1, h2⟩ := reps_fld r2 e
        refine ⟨u, ?_, h2⟩
        rw [List.lookup_cons, show (f == n) = false from beq_eq_false_iff_ne.mpr (Ne.symm h)]
        exact h1
theorem reps_nofld {f : Str} : ∀ {fs : List (Str × V)}, f ∉ fs.map (·.1) → fs.lookup f = none
  | [], _ => rfl
  | (n, v) :: fs, h => by
    have h1 : f ≠ n := fun e => h (by rw [e]; exact List.mem_cons_self)
    rw [List.lookup_cons, show (f == n) = false from beq_eq_false_iff_ne.mpr h1]
    exact reps_nofld fun m => h (List.mem_cons_of_mem _ m)
theorem reps_put {f : Str} {v : V} {y : D} (ry : Rep K F y v) : ∀ {fs : List (Str × V)} {ds : List D}, Reps K F ds (fs.map (·.2)) → (putF f v fs).map (·.1) = (putD f y (fs.map (·.1)) ds).1 ∧ Reps K F (putD f y (fs.map (·.1)) ds).2 ((putF f v fs).map (·.2))
  | [], ds, r => by
    cases r
    exact ⟨rfl, .cons ry .nil⟩
  | (n, x) :: fs, ds, r => by
    cases r with
    | @cons d _ ds' _ r1 r2 =>
      simp only [List.map_cons, putF, putD]
      by_cases h : n = f
      · rw [if_pos h, if_pos h]
        exact ⟨rfl, .cons ry r2⟩
      · rw [if_neg h, if_neg h]
        obtain ⟨h1, h2⟩ := reps_put ry r2
        exact ⟨by rw [List.map_cons, h1], .cons r1 h2⟩
/-- an instance that changes no more -/
theorem FS.freezeI (x : FS K F S H) {p : Addr} {C : Str} {ns : List Str} {ds : List D} (hp : S p = some (.ins C ns ds)) :
    ∃ dx fs, H p = some (.ins (He.ga K C) dx fs) ∧ fs.map (·.1) = ns ∧ Reps K F ds (fs.map (·.2)) ∧ FS K (upd F p (.ins (He.ga K C) dx fs)) (S.del p) H := by
  obtain ⟨fp, dx, fs, e, en, r⟩ := x.st p _ hp
  refine ⟨dx, fs, e, en, r, fun a u h => ?_, fun a m h => ?_, fun a b u v h1 h2 => x.one a b u v (Sub.del a u h1) (Sub.del b v h2)⟩
  · by_cases ha : a = p
    · subst ha
      rw [upd_same] at h
      rw [e]
      exact h
    · rw [upd_ne ha] at h
      exact x.fr a u h
  · have h0 := Sub.del a m h
    have ha : a ≠ p := fun z => by
      subst z
      simp only [MS.del, if_pos] at h
      cases h
    obtain ⟨f, k⟩ := x.st a m h0
    have ne : ∀ c, S c = none → c ≠ p := fun c z q => by
      rw [q, hp] at z
      cases z
    refine ⟨by rw [upd_ne ha]; exact f, mok_move k (ExF.new fp) rfl fun c h1 h2 h3 h4 => ⟨by rw [upd_ne (ne c h2)]; exact h1, ?_, rfl⟩⟩
    simp only [MS.del, if_neg (ne c h2)]
    exact h2
end
section
variable {X : Cx} {L : Lk} {K : PySem.W.Frag} {o e : Expr} {es : List Expr} {to ta : TE} {wo wa : DL.WE} {t : TA} {wr : WA} {pos apos p : Pos}
/-! ### e.f -/
def wFld (C f : Str) (wa : DL.WE) : DL.WE := fun ρ S Q => wa ρ S fun x ρ1 S1 => ∃ ns ds d, rd S1 x = .obj C ns ds ∧ fldD f ns ds = some d ∧ Q d ρ1 S1
theorem re_fld {C f : Str} (c : Cls K (He.ga K C)) (n : NoAttr K (He.ga K C) f) (h : RE K L ta wa) : RE K L (tFld K ta f) (wFld C f wa) := by
  intro F ρ S σ H Q R m q k
  refine h F ρ S σ H _ _ m q fun x H1 dx ρ1 S1 F1 e1 m1 r1 ⟨ns, ds, d, hx, hd, q1⟩ => ?_
  have rt := rd_ok m1.fs r1
  rw [hx] at rt
  obtain ⟨a, da, fs, rfl, h1, h2, h3⟩ := rt
  subst h2
  obtain ⟨v, hv, rv⟩ := reps_fld h3 hd
  exact ⟨a, _, da, fs, v, rfl, h1, c, n, hv, k v H1 d ρ1 S1 F1 e1 m1 rv q1⟩
theorem de_fld (K : PySem.W.Frag) {C f : Str} (c : Cls K (He.ga K C)) (n : NoAttr K (He.ga K C) f) (h : DE X L e ta wa) (hb : attributeBase e f X.env (eval e X.env) = eval e X.env := by rfl) (hK : X.K = K := by rfl) :
    DE X L (.Attribute e f pos) (tFld K ta f) (wFld C f wa) := by
  subst hK
  exact ⟨pe_fld h.pe hb, re_fld c n h.re⟩
/-! ### e.f = v -/
def gFld (K : PySem.W.Frag) (to : TE) (f : Str) : TG := fun v σ H Q => to σ H fun x H1 => ∃ a C dx fs, x = .ref a ∧ H1 a = some (.ins C dx fs) ∧ Cls K C ∧ NoAttr K C f ∧ fs.length < 1000 ∧ Q σ (upd H1 a (.ins C dx (putF f v fs)))
theorem pg_fld {f : Str} (ho : PE X o to) (ha : ∀ v, assign (.Attribute o f pos) X.env v = (do
      let ov ← holding [v] (eval o X.env)
      standAt pos.atName
      holding [v, ov] (setAttr ov f v)
      release [v, ov] []) := by intro _; rfl) : PG X (.Attribute o f pos) (gFld X.K to f) := by
  refine ⟨fun pins s σ H v u Q I r h => ?_⟩
  rw [ha]
  refine wpAny_bind (wpAny_holding (thn (ho.run pins s σ H _ I h) fun ov s1 ⟨x, H1, I1, r1, a, C, dx, fs, ex, ea, c, n, l, q1⟩ => ?_))
  subst ex
  obtain rfl : ov = Value.ref a := r1
  refine wpAny_bind (wpAny_standAt (wpAny_bind (wpAny_holding (setattr_ok I1 ea c n l r fun s3 I3 => ?_))))
  exact wpAny_release ⟨σ, _, I3, q1⟩
def wgFld (C f : Str) (wo : DL.WE) : WG := fun d ρ S Q => wo ρ S fun x ρ1 S1 => ∃ a ns ds, x = .ref a ∧ S1 a = some (.ins C ns ds) ∧ ns.length < 1000 ∧ Q ρ1 (S1.set a (.ins C (putD f d ns ds).1 (putD f d ns ds).2))
theorem rg_fld {C f : Str} (c : Cls K (He.ga K C)) (n : NoAttr K (He.ga K C) f) (h : RE K L to wo) : RG K L [] (gFld K to f) (wgFld C f wo) := by
  intro F ρ S σ H d v Q R m r q k
  refine h F ρ S σ H _ _ m q fun x H1 dx ρ1 S1 F1 e1 m1 r1 ⟨a, ns, ds, hx, hs, hl, q1⟩ => ?_
  subst hx
  cases r1
  obtain ⟨_, da, fs, h1, h2, h3⟩ := m1.fs.st a _ hs
  subst h2
  obtain ⟨p1, p2⟩ := reps_put (f := f) (r.up e1) h3
  have fs3 := m1.fs.write (n := .ins C (putD f d (fs.map (·.1)) ds).1 (putD f d (fs.map (·.1)) ds).2) (o := .ins (He.ga K C) da (putF f v fs)) hs rfl ⟨da, putF f v fs, upd_same, p1, p2⟩
  exact ⟨a, _, da, fs, rfl, h1, c, n, by rw [List.length_map] at hl; exact hl, k F1 ρ1 _ σ _ e1 (m1.step (ExF.refl F1) fs3) rfl q1⟩
theorem dg_fld (K : PySem.W.Frag) {vs : List Nat} {C f : Str} (c : Cls K (He.ga K C)) (n : NoAttr K (He.ga K C) f) (h : DE X L o to wo) (ha : ∀ v, assign (.Attribute o f pos) X.env v = (do
      let ov ← holding [v] (eval o X.env)
      standAt pos.atName
      holding [v, ov] (setAttr ov f v)
      release [v, ov] []) := by intro _; rfl) (hK : X.K = K := by rfl) : DG X L vs (.Attribute o f pos) (gFld K to f) (wgFld C f wo) := by
  subst hK
  refine ⟨pg_fld h.pe ha, fun F ρ S σ H d v Q R m r q k => rg_fld c n h.re F ρ S σ H d v Q R m r q fun F' ρ' S' σ' H' e1 m1 w1 q1 => k F' ρ' S' σ' H' e1 m1 ?_ q1⟩
  have w2 : σ' = σ := w1
  rw [w2]
/-! ### methods -/
structure DefM (P : Program) (w : World) (K : PySem.W.Frag) (mg : Str → Option Value) (base : Heap) (CX : CXT) (k : Nat) (f : Addr) (ps : List Str) (sp : DSp) : Prop where
  ex : ∃ fd, FnG P w K mg base CX k f fd ps (spD K sp) ∧ Binds K fd ps []
variable {CX : CXT} {k : Nat} {f : Addr} {ps : List Str} {sp : DSp} {C m x : Str}
def wMeth (C m : Str) (sp : DSp) (wo : DL.WE) (wr : WA) : DL.WE := fun ρ S Q => wo ρ S fun x ρ1 S1 => (∃ ns ds, rd S1 x = .obj C ns ds ∧ m ∉ ns) ∧ wr ρ1 S1 fun xs ρ2 S2 => sp (x :: xs) S2 (fun d S3 => Q d ρ2 S3) noX
theorem re_meth {E : XK} (ho : RE K L to wo) (hr : RA K L t wr) : RE K L (tMeth (He.ga K C) m (spD K sp) [] E to t) (wMeth C m sp wo wr) := by
  intro F ρ S σ H Q R mt q kk
  refine ho F ρ S σ H _ _ mt q fun x H1 dx ρ1 S1 F1 e1 m1 r1 ⟨⟨ns, ds, hx, hn⟩, q1⟩ => ?_
  have rt := rd_ok m1.fs r1
  rw [hx] at rt
  obtain ⟨a, da, fs, rfl, h1, h2, h3⟩ := rt
  subst h2
  refine ⟨a, da, fs, rfl, h1, reps_nofld hn, ?_⟩
  refine hr F1 ρ1 S1 σ H1 _ _ m1 q1 fun vs H2 xs ρ2 S2 F2 e2 m2 r2 q2 => ?_
  rw [List.append_nil]
  exact ⟨_, F2, S2, _, _, m2.fs, .cons (r1.up e2) r2, q2, fun v H' d F' S' e x r q => kk v H' d ρ2 S' F' ((e1.trans e2).trans e) (m2.step e x) r q, fun _ _ _ _ _ _ _ _ _ _ z => z.elim⟩
theorem de_meth {pl : Sem Bool} (c : Cls K (He.ga K C)) (hm : Meth K (He.ga K C) m f) (D : DefM X.prog X.w K X.mg X.base CX k f ps sp) (hr : RoomG k X.A) (hx : Passes CX X E0) (ho : DE X L o to wo) (ha : DA X L (e :: es) t wr)
    (hst : starEach (e :: es) X.env = (false, eval e X.env) :: starEach es X.env := by rfl) (hpl : (backTo pos (starEach es X.env)).any (·.1) = false := by rfl)
    (ht : eval (.Call (.Attribute o m apos) (e :: es) [] pos) X.env = (do
      let ov ← eval o X.env
      standAt apos.atName
      let (f, first) ← holding [ov] (getMethod ov m pl)
      callWith pos f first (backTo pos (starEach (e :: es) X.env)) (backToKw pos (keywordEach [] X.env))) := by rfl) (hK : X.K = K := by rfl) :
    DE X L (.Call (.Attribute o m apos) (e :: es) [] pos) (tMeth (He.ga K C) m (spD K sp) [] E0 to t) (wMeth C m sp wo wr) := by
  subst hK
  obtain ⟨fd, F, hb⟩ := D.ex
  exact ⟨pe_methG ho.pe c hm F hr.r hr.g hb .nil hx ha.pa hst hpl ht, re_meth ho.re ha.ra⟩
theorem de_meth0 {pl : Sem Bool} (c : Cls K (He.ga K C)) (hm : Meth K (He.ga K C) m f) (D : DefM X.prog X.w K X.mg X.base CX k f ps sp) (hr : RoomG k X.A) (hx : Passes CX X E0) (ho : DE X L o to wo)
    (ht : eval (.Call (.Attribute o m apos) [] [] pos) X.env = (do
      let ov ← eval o X.env
      standAt apos.atName
      let (f, first) ← holding [ov] (getMethod ov m pl)
      callWith pos f first (backTo pos (starEach [] X.env)) (backToKw pos (keywordEach [] X.env))) := by rfl) (hK : X.K = K := by rfl) :
    DE X L (.Call (.Attribute o m apos) [] [] pos) (tMeth (He.ga K C) m (spD K sp) [] E0 to tNil) (wMeth C m sp wo wNil) := by
  subst hK
  obtain ⟨fd, F, hb⟩ := D.ex
  exact ⟨pe_meth0G ho.pe c hm F hr.r hr.g hb .nil hx ht, re_meth ho.re ra_nil⟩
/-! ### making -/
/-- what is made: kept as it is | changing no more -/
def endI (mu : Bool) (C : Str) (a : Addr) (S : MS) (Q : KV2) : Prop := if mu = true then Q (.ref a) S else ∃ ns ds, S a = some (.ins C ns ds) ∧ Q (.obj C ns ds) (S.del a)
def wMake (mu : Bool) (C : Str) (sp : DSp) (wr : WA) (ex : DXC) : DL.WE := fun ρ S Q => wr ρ S fun xs ρ1 S1 => ∀ a, S1 a = none → sp (.ref a :: xs) (S1.set a (.ins C [] [])) (fun v S2 => v = .non ∧ endI mu C a S2 fun d S3 => Q d ρ1 S3) ex
theorem re_make {E : XK} {ex : DXC} (mu : Bool) (hE : ∀ F ρ S σ H, Mt K L F ρ S σ H → ∀ (F' : Hp) (S' : MS) (H' : Hp) (e : Value) (d : Option Addr) (C : Str) (xs : List D), ExF F F' → FS K F' S' H' → ExRep K F' H' e d C xs → ex C xs S' → E e d H') (hr : RA K L t wr) : RE K L (tMake (He.ga K C) (spD K sp) [] E t) (wMake mu C sp wr ex) := by
  intro F ρ S σ H Q R mt q kk
  refine hr F ρ S σ H _ _ mt q fun vs H1 xs ρ1 S1 F1 e1 m1 r1 q1 => ?_
  intro x dx hx hdx ne
  rw [List.append_nil]
  have hx' : (upd H1 dx (.own x)) x = none := by rw [upd_ne (Ne.symm ne)]; exact hx
  have fs2 := (m1.fs.drop (o := .own x) hdx).alloc (o := .ins (He.ga K C) dx []) (m := .ins C [] []) hx' rfl ⟨dx, [], upd_same, rfl, .nil⟩
  obtain ⟨sx, _⟩ := m1.fs.notS hx
  refine ⟨_, F1, _, _, _, fs2, .cons (.ref x) r1, q1 x sx, ?_, fun e d H' C' xs' F' S' ex' x' er z => hE F1 ρ1 S1 σ H1 m1 F' S' H' e d C' xs' ex' x' er z⟩
  rintro v H' d F' S' ex' x' r ⟨rfl, q2⟩
  cases r
  refine ⟨rfl, ?_⟩
  unfold endI at q2
  cases mu with
  | true =>
    rw [if_pos rfl] at q2
    exact kk _ H' _ ρ1 S' F' (e1.trans ex') (m1.step ex' x') (.ref x) q2
  | false =>
    rw [if_neg Bool.false_ne_true] at q2
    obtain ⟨ns, ds, hs, q3⟩ := q2
    obtain ⟨da, fs, h1, h2, h3, h4⟩ := x'.freezeI hs
    have fx := (x'.st x _ hs).1
    exact kk _ H' _ ρ1 _ _ ((e1.trans ex').trans (ExF.new fx)) (m1.step (ex'.trans (ExF.new fx)) h4) (.obj upd_same h2 (h3.up (ExF.new fx))) q3
theorem de_make (mu : Bool) (M : Mk K (He.ga K C) f) (D : DefM X.prog X.w K X.mg X.base CX k f ps sp) (hr : RoomG (k + 1) X.A) (hx : Passes CX X E0) (hg : Gl X C) (hm : X.mg C = some (.ref (He.ga K C))) (ha : DA X L (e :: es) t wr)
    (hdb : (C == ("__debug__" : Str)) = false := by decide) (he : starEach (e :: es) X.env = (false, eval e X.env) :: starEach es X.env := by rfl) (hpl : (backTo pos (starEach es X.env)).any (·.1) = false := by rfl) (hK : X.K = K := by rfl) :
    DE X L (.Call (.Name C p) (e :: es) [] pos) (tMake (He.ga K C) (spD K sp) [] E0 t) (wMake mu C sp wr noX) := by
  subst hK
  obtain ⟨fd, F, hb⟩ := D.ex
  exact ⟨pe_makeG M F hr.r hr.g hg hm hb .nil hx ha.pa hdb he hpl, re_make mu (fun _ _ _ _ _ _ _ _ _ _ _ _ _ _ _ _ z => z.elim) ha.ra⟩
theorem de_makeX (mu : Bool) (M : Mk K (He.ga K C) f) (D : DefM X.prog X.w K X.mg X.base CX k f ps sp) (hr : RoomG (k + 1) X.A) (hx : Passes CX X L.E) (hg : Gl X C) (hm : X.mg C = some (.ref (He.ga K C))) (ha : DA X L (e :: es) t wr)
    (hdb : (C == ("__debug__" : Str)) = false := by decide) (he : starEach (e :: es) X.env = (false, eval e X.env) :: starEach es X.env := by rfl) (hpl : (backTo pos (starEach es X.env)).any (·.1) = false := by rfl) (hK : X.K = K := by rfl) :
    DE X L (.Call (.Name C p) (e :: es) [] pos) (tMake (He.ga K C) (spD K sp) [] L.E t) (wMake mu C sp wr L.ex) := by
  subst hK
  obtain ⟨fd, F, hb⟩ := D.ex
  exact ⟨pe_makeG M F hr.r hr.g hg hm hb .nil hx ha.pa hdb he hpl, re_make mu (fun F ρ S σ H m F' S' H' e d C xs ex x er z => m.lk F' S' H' e d C xs ex x er z) ha.ra⟩
end
end DL
/-! DL15: methods of tuples, < of tuples, in among data of any depth. -/
namespace DL
open PySem PySem.Spec PyProof.Rows L2
section
variable {X : Cx} {L : Lk} {K : PySem.W.Frag} {o e : Expr} {es : List Expr} {to : TE} {wo : DL.WE} {t : TA} {wr : WA} {apos cpos : Pos} {id : String} {name : Str} {r : V → List V → Hp → VK → Prop} {wm : D → List D → MS → KV2 → Prop}
/-- t.m(..), t a tuple without a dict -/
def tBMT (K : PySem.W.Frag) (r : V → List V → Hp → VK → Prop) (to : TE) (t : TA) : TE := fun σ H Q => to σ H fun x H1 => (∃ a vs, x = .ref a ∧ TupAt K H1 a vs) ∧ t σ H1 fun xs H2 => r x xs H2 Q
theorem tupAt_is {pins : List (Addr × Obj)} {σ : L2.St} {H : Hp} {s : Shared} {a : Addr} {vs : List V} (I : Inv X pins σ H s) (h : TupAt X.K H a vs) : s.TypeIs (.ref a) "tuple" ∧ ∀ b, Value.ref a = .ref b → ∃ ob, s.heap.get? b = some ob ∧ ob.dict = none := by
  obtain ⟨its, rv, p, hz⟩ := I.tuple h.sq
  refine ⟨p.typeIs, fun b e => ?_⟩
  cases e
  rcases h with ⟨o, h, d⟩ | ⟨o, its, n, h1, h2, h3, h4, h5, d⟩
  · exact ⟨o, (I.hok a _ h).1, d⟩
  · exact ⟨o, I.kIn a o h1, d⟩
theorem pe_bmT (pa : PlainAttrs "tuple") (slot : Slot "tuple" name id) (hty : typeOf (.builtin id) = pure (.type "method_descriptor")) (hm : MtR X id r) (ho : PE X o to) (ha : PA X (e :: es) t)
    (hbase : attributeBase o name X.env (eval o X.env) = eval o X.env := by rfl)
    (hfew : ((backTo cpos (starEach (e :: es) X.env)).all (fun x => !x.1) && (backToKw cpos (keywordEach [] X.env)).all (fun x => x.1.isSome)
      && decide ((e :: es).length + ([] : List Keyword).length + (if ([] : List Keyword).isEmpty then 0 else 1) < 30)) = true := by rfl)
    (hline : (apos.endLine == cpos.line) = true := by rfl) (hs : starEach (e :: es) X.env = (false, eval e X.env) :: starEach es X.env := by rfl) (hplain : (backTo cpos (starEach es X.env)).any (·.1) = false := by rfl) :
    PE X (.Call (.Attribute o name apos) (e :: es) [] cpos) (tBMT X.K r to t) := by
  refine ⟨fun pins s σ H Q I h => ?_⟩
  refine wpAny_Call_method_late hbase hfew hline rfl (thn (ho.run pins s σ H _ I h) fun v s1 ⟨x, H1, I1, r1, ⟨a, vs, ex, ty⟩, q1⟩ => ?_)
  subst ex
  cases r1
  obtain ⟨h1, h2⟩ := tupAt_is I1 ty
  refine ⟨"tuple", id, pa, slot, hty, h1, h2, ?_⟩
  have hA := ha.run cpos pins s1 σ H1 _ I1 q1
  rw [hs] at hA ⊢
  refine Calls.callWith_builtin (by show (false || (backTo cpos (starEach es X.env)).any (·.1)) = false; rw [hplain] <;> rfl) (Calls.evalArgs_plain ?_)
  exact thn hA fun us s2 ⟨vs, H2, I2, r2, q2⟩ => hm pins s2 σ H2 (.ref a) vs (.ref a) us Q I2 rfl r2 q2
def wBMT (wm : D → List D → MS → KV2 → Prop) (wo : DL.WE) (wr : WA) : DL.WE := fun ρ S Q => wo ρ S fun x ρ1 S1 => (∃ ds, x = .tup ds) ∧ wr ρ1 S1 fun xs ρ2 S2 => wm x xs S2 fun d S3 => Q d ρ2 S3
theorem re_bmT (hr : RM K r wm) (ho : RE K L to wo) (ha : RA K L t wr) : RE K L (tBMT K r to t) (wBMT wm wo wr) := by
  intro F ρ S σ H Q R m q k
  refine ho F ρ S σ H _ _ m q fun x H1 dx ρ1 S1 F1 e1 m1 r1 ⟨⟨ds, hx⟩, q1⟩ => ?_
  subst hx
  have rr := r1
  cases r1 with
  | @tup _ a vs h1 h2 =>
    refine ⟨⟨a, vs, rfl, ?_⟩, ?_⟩
    · exact exf_ta (fun b o z => m1.fs.fr b o z) h1
    · refine ha F1 ρ1 S1 σ H1 _ _ m1 q1 fun us H2 xs ρ2 S2 F2 e2 m2 r2 q2 => ?_
      exact hr F2 S2 H2 _ _ xs us _ _ m2.fs (rr.up e2) r2 q2 fun v H' d S' F' e x r q => k v H' d ρ2 S' F' ((e1.trans e2).trans e) (m2.step e x) r q
theorem de_bmT (K : PySem.W.Frag) (pa : PlainAttrs "tuple") (slot : Slot "tuple" name id) (hty : typeOf (.builtin id) = pure (.type "method_descriptor")) (hm : MtR X id r) (hr : RM K r wm) (ho : DE X L o to wo) (ha : DA X L (e :: es) t wr)
    (hbase : attributeBase o name X.env (eval o X.env) = eval o X.env := by rfl)
    (hfew : ((backTo cpos (starEach (e :: es) X.env)).all (fun x => !x.1) && (backToKw cpos (keywordEach [] X.env)).all (fun x => x.1.isSome)
      && decide ((e :: es).length + ([] : List Keyword).length + (if ([] : List Keyword).isEmpty then 0 else 1) < 30)) = true := by rfl)
    (hline : (apos.endLine == cpos.line) = true := by rfl) (hs : starEach (e :: es) X.env = (false, eval e X.env) :: starEach es X.env := by rfl) (hplain : (backTo cpos (starEach es X.env)).any (·.1) = false := by rfl) (hK : X.K = K := by rfl) :
    DE X L (.Call (.Attribute o name apos) (e :: es) [] cpos) (tBMT K r to t) (wBMT wm wo wr) := by
  subst hK
  exact ⟨pe_bmT pa slot hty hm ho.pe ha.pa hbase hfew hline hs hplain, re_bmT hr ho.re ha.ra⟩
/-! ### index -/
def rIndexT (K : PySem.W.Frag) : V → List V → Hp → VK → Prop := fun x xs H Q => ∃ (p : Addr) (ns : List Int) (k : Int), x = .ref p ∧ xs = [.int k] ∧ SqT K H p (ns.map V.int) ∧ k ∈ ns ∧ Q (.int (ns.idxOf k : Nat)) H
theorem mt_indexT (K : PySem.W.Frag) (hK : X.K = K := by rfl) : MtR X "tuple.index" (rIndexT K) := by
  subst hK
  intro pins s σ H x xs v us Q I rx rs h
  obtain ⟨p, ns, k, rfl, rfl, hs, hk, q⟩ := h
  cases rx
  obtain ⟨u, rfl, t, rfl⟩ := vals1 rs
  obtain ⟨its, rv, pl, hz⟩ := I.tuple hs
  exact SeqAt.tuple_index_ints (show s.heap.IsTuple p its.toArray from pl) rv.ints hk ⟨.int _, H, I.tok _, ⟨_, rfl⟩, q⟩
def wIndexT : D → List D → MS → KV2 → Prop := fun x xs S Q => ∃ (ns : List Int) (k : Int), x = .tup (ns.map D.int) ∧ xs = [.int k] ∧ k ∈ ns ∧ Q (.int (ns.idxOf k : Nat)) S
theorem rm_indexT : RM K (rIndexT K) wIndexT := by
  rintro F S H x vx xs vs Q R fs rx rs ⟨ns, k, rfl, rfl, hk, q⟩ kk
  cases rx with
  | tup h1 h2 =>
    have e := h2.ints
    subst e
    cases rs with
    | cons r1 r2 =>
      cases r2
      cases r1
      exact ⟨_, ns, k, rfl, rfl, exf_t fs.fr h1.sq, hk, kk.int fs q⟩
def rIndexL (K : PySem.W.Frag) : V → List V → Hp → VK → Prop := fun x xs H Q => ∃ (p : Addr) (ns : List Int) (k : Int), x = .ref p ∧ xs = [.int k] ∧ SqL K H p (ns.map V.int) ∧ k ∈ ns ∧ Q (.int (ns.idxOf k : Nat)) H
theorem mt_indexL (K : PySem.W.Frag) (hK : X.K = K := by rfl) : MtR X "list.index" (rIndexL K) := by
  subst hK
  intro pins s σ H x xs v us Q I rx rs h
  obtain ⟨p, ns, k, rfl, rfl, hs, hk, q⟩ := h
  cases rx
  obtain ⟨u, rfl, t, rfl⟩ := vals1 rs
  obtain ⟨its, rv, pl, hz⟩ := I.list hs
  exact SeqAt.list_index_ints pl.isList rv.ints (by rw [List.length_map] at hz; exact hz) hk ⟨.int _, H, I.tok _, ⟨_, rfl⟩, q⟩
def wIndexL : D → List D → MS → KV2 → Prop := fun x xs S Q => ∃ (ns : List Int) (k : Int), rd S x = .lst (ns.map D.int) ∧ xs = [.int k] ∧ k ∈ ns ∧ Q (.int (ns.idxOf k : Nat)) S
theorem rm_indexL : RM K (rIndexL K) wIndexL := by
  rintro F S H x vx xs vs Q R fs rx rs ⟨ns, k, hx, rfl, hk, q⟩ kk
  have rt := rd_ok fs rx
  rw [hx] at rt
  obtain ⟨a, us, rfl, h1, h2⟩ := rt
  have e := h2.ints
  subst e
  cases rs with
  | cons r1 r2 =>
    cases r2
    cases r1
    exact ⟨_, ns, k, rfl, rfl, .inl h1, hk, kk.int fs q⟩
/-! ### t < u -/
theorem op_ltTK (K : PySem.W.Frag) (hu : X.A.units < cLine) (hK : X.K = K := by rfl) : OpR X (compareOp .Lt) (rLtT K) := by subst hK; exact op_ltT hu
def wLtT : D → D → MS → KV2 → Prop := fun x y S Q => ∃ ns ms : List Int, x = .tup (ns.map D.int) ∧ y = .tup (ms.map D.int) ∧ Q (.bl (HT.lexLt ns ms)) S
theorem ro_ltT : RO2 K (rLtT K) wLtT := by
  rintro F S H x y vx vy Q R fs rx ry ⟨ns, ms, rfl, rfl, q⟩ k
  obtain ⟨a, vs, rfl, h1, h2, _⟩ := rx
  obtain ⟨b, us, rfl, h3, h4, _⟩ := ry
  have e := h2.ints
  have e2 := h4.ints
  subst e e2
  exact ⟨a, b, ns, ms, rfl, rfl, h1, h3, k.bl fs q⟩
/-! ### x in xs, of any depth -/
def rInA (K : PySem.W.Frag) (neg : Bool) : R2 := fun x y H Q => ∃ d ds, Dp K H x d ∧ (Dp K H y (.list ds) ∨ Dp K H y (.tuple ds)) ∧ SeqAt.shaped d = true ∧ SeqAt.shaped (.list ds) = true ∧ Q (.bl (if neg then !(ds.any fun z => PyData.eqv z d) else ds.any fun z => PyData.eqv z d)) H
theorem op_inA (K : PySem.W.Frag) (hu : X.A.units + 65 < cLine) (hK : X.K = K := by rfl) : OpR X (compareOp .In) (rInA K false) := by
  subst hK
  intro pins s σ H x y v u Q I rx ry h
  obtain ⟨d, ds, hd, he, sd, se, q⟩ := h
  obtain ⟨as, r1⟩ := Dp.reads I d x v hd rx
  rcases he with he | he
  · obtain ⟨bs, r2⟩ := Dp.reads I (.list ds) y u he ry
    exact SeqAt.in_list_reads r2 r1 (SeqAt.canLay_of_shaped se) (SeqAt.canLay_of_shaped sd) (room_in_shaped sd hu) ⟨.bl _, H, I, rfl, q⟩
  · obtain ⟨bs, r2⟩ := Dp.reads I (.tuple ds) y u he ry
    exact SeqAt.in_tuple_reads r2 r1 (SeqAt.canLay_of_shaped se) (SeqAt.canLay_of_shaped sd) (room_in_shaped sd hu) ⟨.bl _, H, I, rfl, q⟩
theorem op_notInA (K : PySem.W.Frag) (hu : X.A.units + 65 < cLine) (hK : X.K = K := by rfl) : OpR X (compareOp .NotIn) (rInA K true) := by
  subst hK
  intro pins s σ H x y v u Q I rx ry h
  obtain ⟨d, ds, hd, he, sd, se, q⟩ := h
  obtain ⟨as, r1⟩ := Dp.reads I d x v hd rx
  rcases he with he | he
  · obtain ⟨bs, r2⟩ := Dp.reads I (.list ds) y u he ry
    exact SeqAt.notIn_list_reads r2 r1 (SeqAt.canLay_of_shaped se) (SeqAt.canLay_of_shaped sd) (room_in_shaped sd hu) ⟨.bl _, H, I, rfl, q⟩
  · obtain ⟨bs, r2⟩ := Dp.reads I (.tuple ds) y u he ry
    exact SeqAt.notIn_tuple_reads r2 r1 (SeqAt.canLay_of_shaped se) (SeqAt.canLay_of_shaped sd) (room_in_shaped sd hu) ⟨.bl _, H, I, rfl, q⟩
/-- the items, and whether all is of a kind that == covers -/
def wInA (neg : Bool) : D → D → MS → KV2 → Prop := fun x y S Q => ∃ ds, (y = .lst ds ∨ y = .tup ds) ∧ okD x = true ∧ okD (.lst ds) = true ∧ Q (.bl (if neg then !inD x ds else inD x ds)) S
theorem toPys_any {x : D} : ∀ ds : List D, ((toPys ds).any fun z => PyData.eqv z (toPy x)) = inD x ds
  | [] => rfl
  | d :: ds => by
    rw [toPys, List.any_cons, toPys_any ds]
    rfl
theorem ro_inA (neg : Bool) : RO2 K (rInA K neg) (wInA neg) := by
  rintro F S H x y vx vy Q R fs rx ry ⟨ds, hy, hx, hds, q⟩ k
  have d1 := dp_ofT fs rx hx
  rw [← toPys_any] at q
  rcases hy with rfl | rfl
  · exact ⟨_, toPys ds, d1, .inl (dp_ofT fs ry hds), hx, hds, k.bl fs q⟩
  · exact ⟨_, toPys ds, d1, .inr (dp_ofT fs ry hds), hx, hds, k.bl fs q⟩
end
end DL
/-! DL16: sorted of data that is alike. -/
namespace DL
open PySem PySem.Spec PyProof.Rows L2
section
open PySem.W
variable {prog : Program} {w : World} {A : Around} {E : Value → Shared → Prop} {s : Shared}
theorem sorted_sqV {it : Addr} {T : String} {o : Obj} {vs : List Value} {n : Nat} {Q : Value → Shared → Prop} (hT : T = "list" ∨ T = "tuple")
    (ho : s.heap.get? it = some o) (hc : o.cls = .type T) (hd : o.data = .seq vs.toArray n) (hz : vs.length ≤ sizeLine)
    (hS : ∀ (h₁ : Heap) (a : Addr), h₁.get? a = some (seqObj "list" vs.toArray 0) → s.heap.objs.size ≤ a → (∀ b o, s.heap.get? b = some o → b ≠ a ∧ h₁.get? b = some o) → ∃ κ : KeyKind, SortsAt prog w A.in1.in1 { s with heap := sortingHeap h₁ a vs } κ vs ∧
      ∀ (h' : Heap) (e : Nat), (∀ b o, s.heap.get? b = some o → h'.get? b = some o) → h'.get? a = some (seqObj "list" (sortVals κ false vs vs).toArray e) → Q (.ref a) { s with heap := h' }) :
    wpAny (model prog w) A (call (.builtin "sorted") [.ref it]) Q E s := by
  refine Calls.call_function_entry kind_sorted plain_sorted entry_sorted (args_sorted1 _) ?_
  unfold Builtin.«sorted»
  refine wpAny_bind (m := checkCount "sorted" 1 1 _) (wpAny_pure ?_)
  refine wpAny_bind (collect_sq it hT ho hc hd (fun h1 k1 z1 => ?_) (by rw [List.size_toArray]; exact hz))
  refine wpAny_bind (wpAny_newList ?_ hz)
  have hoL : (h1.push (seqObj "list" vs.toArray 0)).get? h1.objs.size = some (seqObj "list" vs.toArray 0) := Heap.get?_push_size _ rfl
  have keep : ∀ b o, s.heap.get? b = some o → b ≠ h1.objs.size ∧ (h1.push (seqObj "list" vs.toArray 0)).get? b = some o := fun b o q =>
    ⟨Nat.ne_of_lt (Heap.lt_size (k1 b o q)), Heap.get?_push_of_some _ (k1 b o q)⟩
  obtain ⟨κ, hs, hQ⟩ := hS _ _ hoL z1 keep
  show wpAny _ _ _ _ _ { s with heap := h1.push (seqObj "list" vs.toArray 0) }
  refine wpAny_bind (wpAny_holding (wpAny_call_entry_kw slot_list_sort ⟨_, hoL, rfl⟩ entry_list_sort (list_sort_vals (s := { s with heap := h1.push (seqObj "list" vs.toArray 0) }) hoL hs hz ⟨_, rfl, ?_⟩) (args_list_sort _)))
  obtain ⟨e, he⟩ := sortedHeap_at (vs := vs) (out := (sortVals κ false vs vs).toArray) hoL
  refine wpAny_pure ⟨_, rfl, hQ _ e (fun b o q => ?_) he⟩
  obtain ⟨hb1, hb2⟩ := keep b o q
  exact (PyProof.Rows.sortedHeap_old hb1 (Heap.lt_size hb2)).trans hb2
end
def leD (x y : D) : Bool := PySem.W.dataLe false toPy x y
def sortD (ds : List D) : List D := ds.mergeSort leD
def okSort (ds : List D) : Prop := PySem.W.AllAlike (ds.map toPy) ∧ PySem.W.Sortable (ds.map toPy)
def rSortedD (K : PySem.W.Frag) : List V → Hp → VK → Prop := fun xs H Q => ∃ (a : Addr) (bs : List (D × V)), xs = [.ref a] ∧ (SqL K H a (bs.map (·.2)) ∨ SqT K H a (bs.map (·.2))) ∧ DpAll K H (bs.map (·.2)) (bs.map fun b => toPy b.1) ∧
  PySem.W.AllAlike (bs.map fun b => toPy b.1) ∧ PySem.W.Sortable (bs.map fun b => toPy b.1) ∧ (∀ b ∈ bs, (toPy b.1).depth ≤ 60) ∧ ∀ p, H p = none → Q (.ref p) (upd H p (.lst ((bs.mergeSort fun b c => leD b.1 c.1).map (·.2))))
theorem each_vals : ∀ {bs : List (D × V)} {us : List Value}, Vals (bs.map (·.2)) us → PySem.W.EachIs (fun u (b : D × V) => RelV b.2 u) us bs
  | [], _, r => by cases r; exact .nil
  | b :: bs, _, r => by
    cases r with
    | cons r1 r2 => exact .cons r1 (each_vals r2)
theorem vals_each : ∀ {bs : List (D × V)} {us : List Value}, PySem.W.EachIs (fun u (b : D × V) => RelV b.2 u) us bs → Vals (bs.map (·.2)) us
  | [], _, r => by cases r; exact .nil
  | b :: bs, _, r => by
    cases r with
    | cons r1 r2 => exact .cons r1 (vals_each r2)
section
variable {X : Cx} {K : PySem.W.Frag}
theorem cr_sortedD (K : PySem.W.Frag) (hu : X.A.units + 64 < cLine) (hK : X.K = K := by rfl) : CallR X (.builtin "sorted") (rSortedD K) := by
  subst hK
  intro pins s σ H xs us Q I r h
  obtain ⟨a, bs, rfl, hs, hd, hal, hso, hdp, q⟩ := h
  rw [Vals.ref1 r]
  have key : ∀ (T : String) (its : List Value) (o : Obj) (n : Nat), (T = "list" ∨ T = "tuple") → s.heap.get? a = some o → o.cls = .type T → o.data = .seq its.toArray n → Vals (bs.map (·.2)) its → (bs.map (·.2)).length ≤ sizeLine → wpAny (model X.prog X.w) X.A (call (.builtin "sorted") [.ref a]) (EP X pins σ Q) X.xe s := by
    intro T its o n hT ho hc hdt rv hz
    have hlen := rv.length
    obtain ⟨as, ra⟩ := Dp.readsAll I _ _ its hd rv
    have er : PySem.W.EachIs (fun v (b : D × V) => ∃ as, Reads s.heap v (toPy b.1) as) its bs := PySem.W.readsAll_each (fun b : D × V => toPy b.1) ra
    refine sorted_sqV hT ho hc hdt (by rw [← hlen]; exact hz) fun h₁ a' hoL ha' kp => ?_
    have er' : PySem.W.EachIs (fun v (b : D × V) => ∃ as, Reads (PySem.W.sortingHeap h₁ a' its) v (toPy b.1) as) its bs := er.mono fun _ _ ⟨as, r⟩ => ⟨as, PyProof.Rows.Reads.keeps (fun b ob z => PySem.W.sortingHeap_old (kp b ob z).1 (kp b ob z).2) r⟩
    refine ⟨PySem.W.dataKind (PySem.W.sortingHeap h₁ a' its) (bs.map fun b => toPy b.1), PySem.W.SortsAt.data (PySem.W.each_map (R := fun v d => ∃ as, Reads (PySem.W.sortingHeap h₁ a' its) v d as) (fun b : D × V => toPy b.1) er') hal hso ?_, fun h' e k' he' => ?_⟩
    · intro d hd
      obtain ⟨b, hb, rfl⟩ := List.mem_map.mp hd
      have := hdp b hb
      show X.A.units + 2 + _ < cLine
      omega
    · have eo := PySem.W.sortVals_data false (each_vals rv) er' hal
      have ro := vals_each eo
      have hl2 : ((bs.mergeSort fun b c => leD b.1 c.1).map (·.2)).length ≤ sizeLine := by
        rw [List.length_map, List.length_mergeSort]
        rw [List.length_map] at hz
        exact hz
      exact ⟨.ref a', _, I.laid (t' := s.toks) (o := .lst ((bs.mergeSort fun b c => leD b.1 c.1).map (·.2))) k' ha' ⟨hl2, _, e, ro, he'⟩, rfl, q _ (I.hok.fresh ha')⟩
  rcases hs with hs | hs
  · obtain ⟨its, rv, hl, hz⟩ := I.list hs
    obtain ⟨o, ho, hc, n, hd⟩ := hl.isList
    exact key "list" its o n (.inl rfl) ho hc hd rv hz
  · obtain ⟨its, rv, ⟨o, ho, hc, n, hd⟩, hz⟩ := I.tuple hs
    exact key "tuple" its o n (.inr rfl) ho hc hd rv hz
def cSortedD (m : Bool) : D → MS → KV2 → Prop := fun x S Q => ∃ ds, (x = .lst ds ∨ x = .tup ds) ∧ okSort ds ∧ (∀ d ∈ ds, okL 60 d = true) ∧ newL m (sortD ds) S Q
theorem reps_zip {F : Hp} : ∀ {ds : List D} {vs : List V}, Reps K F ds vs → (ds.zip vs).map (·.1) = ds ∧ (ds.zip vs).map (·.2) = vs ∧ ∀ p ∈ ds.zip vs, Rep K F p.1 p.2
  | [], _, r => by cases r; exact ⟨rfl, rfl, fun _ h => nomatch h⟩
  | d :: ds, _, r => by
    cases r with
    | cons r1 r2 =>
      obtain ⟨h1, h2, h3⟩ := reps_zip r2
      refine ⟨by rw [List.zip_cons_cons, List.map_cons, h1], by rw [List.zip_cons_cons, List.map_cons, h2], fun p hp => ?_⟩
      rw [List.zip_cons_cons] at hp
      rcases List.mem_cons.mp hp with rfl | hp
      · exact r1
      · exact h3 p hp
theorem reps_of_all {F : Hp} : ∀ {bs : List (D × V)}, (∀ p ∈ bs, Rep K F p.1 p.2) → Reps K F (bs.map (·.1)) (bs.map (·.2))
  | [], _ => .nil
  | b :: bs, h => .cons (h b List.mem_cons_self) (reps_of_all fun p hp => h p (List.mem_cons_of_mem _ hp))
theorem roc_sortedD (m : Bool) : ROc K (rSortedD K) (w1 (cSortedD m)) := roc1 fun F S H x v Q R fs rx ⟨ds, hx, ⟨ho1, ho2⟩, ho3, q⟩ k => by
  have fin : ∀ a vs, (SqL K H a vs ∨ SqT K H a vs) → Reps K F ds vs → rSortedD K [.ref a] H R := fun a vs hs r => by
    obtain ⟨z1, z2, z3⟩ := reps_zip r
    have e1 : (ds.zip vs).map (fun b => toPy b.1) = ds.map toPy := by
      have e0 : (ds.zip vs).map (fun b => toPy b.1) = ((ds.zip vs).map (fun b => b.1)).map toPy := by rw [List.map_map]; rfl
      rw [e0, z1]
    have hc : PyData.canLayAll0 (toPys ds) = true := (okL_all ho3).1
    refine ⟨a, ds.zip vs, rfl, by rw [z2]; exact hs, ?_, by rw [e1]; exact ho1, by rw [e1]; exact ho2, fun b hb => ?_, fun p hp => ?_⟩
    · rw [z2, e1, ← toPys_map]
      exact dps_of fs ds vs r hc
    · have : b.1 ∈ ds := by rw [← z1]; exact List.mem_map.mpr ⟨b, hb, rfl⟩
      have := ho3 _ this
      simp only [okL, Bool.and_eq_true, decide_eq_true_eq] at this
      exact this.2
    · have e2 : ((ds.zip vs).mergeSort fun b c => leD b.1 c.1).map (·.1) = sortD ds := by
        rw [List.map_mergeSort (s := leD) (fun _ _ _ _ => rfl), z1]
        rfl
      have r2 : Reps K F (sortD ds) (((ds.zip vs).mergeSort fun b c => leD b.1 c.1).map (·.2)) := by
        rw [← e2]
        exact reps_of_all fun p hp => z3 p ((List.mergeSort_perm _ _).mem_iff.mp hp)
      exact newL_ok k fs r2 q hp
  rcases hx with rfl | rfl
  · obtain ⟨a, vs, rfl, h1, h2⟩ := rx
    exact fin a vs (.inl (.inl h1)) h2
  · obtain ⟨a, vs, rfl, h1, h2, _⟩ := rx
    exact fin a vs (.inr h1) h2
end
end DL
/-! DL17: repr of data; sorting of rows. -/
namespace DL
open PySem PySem.Spec PyProof.Rows L2
/-! ### repr -/
def reprD (d : D) : Str := (toPy d).shown
def rRepr (K : PySem.W.Frag) : List V → Hp → VK → Prop := fun xs H Q => ∃ (a : Addr) (d : PyData), xs = [.ref a] ∧ Dp K H (.ref a) d ∧ d.showable = true ∧ d.hasDict = false ∧ d.depth ≤ 60 ∧ d.shown.length ≤ sizeLine ∧ Q (.str d.shown) H
section
variable {X : Cx} {K : PySem.W.Frag}
theorem cr_repr (K : PySem.W.Frag) (hu : X.A.units + 64 < cLine) (hG : X.A.guards = some []) (hK : X.K = K := by rfl) : CallR X (.builtin "repr") (rRepr K) := by
  subst hK
  intro pins s σ H xs us Q I r h
  obtain ⟨a, d, rfl, hd, hs, hn, hdp, hz, q⟩ := h
  rw [Vals.ref1 r]
  obtain ⟨as, rd⟩ := Dp.reads I d (.ref a) (.ref a) hd rfl
  exact repr_of_reads' rd hs (fun h' => by rw [hn] at h'; cases h') hG (by omega) (fun _ _ h => h) (fun h' u tk hk => ⟨.str _, H, I.kept (t' := tk) hk, ⟨u, rfl⟩, q⟩) hz
end
/-- what repr covers here: lists and tuples of flat data, not too deep, numbers not too great -/
def okR (d : D) : Bool := (toPy d).showable && (!(toPy d).hasDict && (decide ((toPy d).depth ≤ 60) && ((toPy d).canLay0 && decide ((toPy d).shown.length ≤ sizeLine))))
def cRepr : D → MS → KV2 → Prop := fun x S Q => (∃ ds, x = .lst ds ∨ x = .tup ds) ∧ okR x = true ∧ Q (.str (reprD x)) S
theorem roc_repr {K : PySem.W.Frag} : ROc K (rRepr K) (w1 cRepr) := roc1 fun F S H x v Q R fs rx ⟨⟨ds, hx⟩, ho, q⟩ k => by
  simp only [okR, Bool.and_eq_true, Bool.not_eq_true', decide_eq_true_eq] at ho
  obtain ⟨h1, h2, h3, h4, h5⟩ := ho
  have sh : SeqAt.shaped (toPy x) = true := by
    unfold SeqAt.shaped
    rw [h4, decide_eq_true (by omega)]
    rfl
  have dp := dp_ofT fs rx sh
  have va : ∃ a, v = .ref a := by
    rcases hx with rfl | rfl
    · obtain ⟨a, _, rfl, _⟩ := rx
      exact ⟨a, rfl⟩
    · obtain ⟨a, _, rfl, _⟩ := rx
      exact ⟨a, rfl⟩
  obtain ⟨a, rfl⟩ := va
  exact ⟨a, _, rfl, dp, h1, h2, h3, h5, k.here fs (.str _) q⟩
/-! ### rows of numbers, sorted -/
abbrev tupI (r : List Int) : D := .tup (r.map D.int)
theorem toPys_ints (r : List Int) : toPys (r.map D.int) = r.map PyData.int := by
  rw [toPys_map, List.map_map]
  rfl
theorem leD_int (x y : Int) : leD (.int x) (.int y) = decide (x ≤ y) := by
  show (!PySem.W.dataLt (.int y) (.int x)) = _
  rw [PySem.W.dataLt_int, PySem.W.not_lt_int]
theorem leD_row (x y : List Int) : leD (tupI x) (tupI y) = decide (x ≤ y) := by
  show (!PySem.W.dataLt (.tuple (toPys (y.map D.int))) (.tuple (toPys (x.map D.int)))) = _
  rw [toPys_ints, toPys_ints, PySem.W.dataLt_tuple]
  show (!PySem.W.rowLt (y.map .int) (x.map .int)) = _
  rw [PySem.W.dataLt_ints]
  by_cases h : y < x
  · have h' : ¬ x ≤ y := fun r => List.not_lt.mpr r h
    simp [h, h']
  · have h' : x ≤ y := List.not_lt.mp h
    simp [h, h']
theorem sortD_ints (ns : List Int) : sortD (ns.map D.int) = (ns.mergeSort fun a b => decide (a ≤ b)).map D.int := by
  unfold sortD
  rw [List.map_mergeSort (s := leD) fun a _ b _ => (leD_int a b).symm]
theorem sortD_rows (rs : List (List Int)) : sortD (rs.map tupI) = (rs.mergeSort fun a b => decide (a ≤ b)).map tupI := by
  unfold sortD
  rw [List.map_mergeSort (s := leD) fun a _ b _ => (leD_row a b).symm]
theorem okSort_ints (ns : List Int) : okSort (ns.map D.int) := by
  refine ⟨fun d hd d' hd' => ?_, .inr fun d hd => ?_⟩
  · obtain ⟨x, hx, rfl⟩ := List.mem_map.mp hd
    obtain ⟨y, hy, rfl⟩ := List.mem_map.mp hd'
    obtain ⟨i, _, rfl⟩ := List.mem_map.mp hx
    obtain ⟨j, _, rfl⟩ := List.mem_map.mp hy
    simp [toPy, PySem.W.alike]
  · obtain ⟨x, hx, rfl⟩ := List.mem_map.mp hd
    obtain ⟨i, _, rfl⟩ := List.mem_map.mp hx
    exact ⟨nofun, fun xs => nofun⟩
theorem okSort_rows {rs : List (List Int)} (h : ∀ r ∈ rs, r ≠ []) : okSort (rs.map tupI) := by
  refine ⟨fun d hd d' hd' => ?_, .inl fun d hd => ?_⟩
  · obtain ⟨x, hx, rfl⟩ := List.mem_map.mp hd
    obtain ⟨y, hy, rfl⟩ := List.mem_map.mp hd'
    obtain ⟨r, _, rfl⟩ := List.mem_map.mp hx
    obtain ⟨r', _, rfl⟩ := List.mem_map.mp hy
    simp only [toPy, toPys_ints, PySem.W.alike]
    exact PySem.W.alike_ints r r'
  · obtain ⟨x, hx, rfl⟩ := List.mem_map.mp hd
    obtain ⟨r, hr, rfl⟩ := List.mem_map.mp hx
    cases r with
    | nil => exact absurd rfl (h _ hr)
    | cons a r => exact ⟨.int a, r.map .int, by show PyData.tuple (toPys ((a :: r).map D.int)) = _; rw [toPys_ints]; rfl⟩
theorem okL_row {n : Nat} (h : 1 ≤ n) (r : List Int) : okL n (tupI r) = true := okL_mono (okL_tup (n := 0) fun d hd => by
  obtain ⟨i, _, rfl⟩ := List.mem_map.mp hd
  exact okL_int) h
theorem lexLt_eq (x y : List Int) : HT.lexLt x y = decide (x < y) := by
  induction x generalizing y with
  | nil => cases y <;> simp [HT.lexLt]
  | cons a x ih =>
    cases y with
    | nil => simp [HT.lexLt]
    | cons b y =>
      rw [HT.lexLt_cons, ih]
      by_cases h : a = b
      · simp [h, List.cons_lt_cons_iff]
      · simp [h, List.cons_lt_cons_iff]
theorem sorted_ints_le (ns : List Int) : (ns.mergeSort fun a b => decide (a ≤ b)).Pairwise (· ≤ ·) :=
  (List.pairwise_mergeSort (le := fun a b => decide (a ≤ b)) (fun a b c h1 h2 => by simp at h1 h2 ⊢; omega) (fun a b => by simp; omega) ns).imp fun h => of_decide_eq_true h
theorem sorted_rows_le (rs : List (List Int)) : (rs.mergeSort fun a b => decide (a ≤ b)).Pairwise (· ≤ ·) :=
  (List.pairwise_mergeSort (le := fun a b => decide (a ≤ b)) (fun a b c h1 h2 => by
    simp only [decide_eq_true_eq] at h1 h2 ⊢
    exact List.le_trans h1 h2) (fun a b => by
    simp only [Bool.or_eq_true, decide_eq_true_eq]
    exact List.le_total a b) rs).imp fun h => of_decide_eq_true h
end DL
/-! DL18: all, any of a comprehension; more to rewrite readings. -/
namespace DL
open PySem PySem.Spec PyProof.Rows L2
theorem RoomG.un1 {k : Nat} {A : Around} (h : RoomG k A) : A.units < cLine := by have := h.units; omega
theorem compAll {g : MS → Prop} {wg : WG} {we : DL.WE} {ρ0 : Rho} {S0 : MS} {Q : KV2} {ds : List D} (f : D → Bool) (hg : ∀ S, Sub S0 S → g S) (hz : ds.length ≤ sizeLine)
    (hs : ∀ d ∈ ds, ∀ S, Sub S0 S → ∀ N : D → MS → Prop, N (.bl (f d)) S → wg d ρ0 S fun ρ1 S1 => we ρ1 S1 fun x _ S3 => N x S3) (q : Q (.bl (ds.all f)) S0) :
    ∀ a, S0 a = none → compW a g wg wYes we (fun S2 => endL false a S2 fun d S3 => cAll (rd S3 d) S3 Q) ρ0 ds (S0.set a (.lst [])) := by
  refine compL_map (Q := fun d S3 => cAll (rd S3 d) S3 Q) (fun d => .bl (f d)) hg hz hs ?_
  rw [map_bl]
  refine cAll_bl ?_
  rw [all_map_id]
  exact q
theorem compAny {g : MS → Prop} {wg : WG} {we : DL.WE} {ρ0 : Rho} {S0 : MS} {Q : KV2} {ds : List D} (f : D → Bool) (hg : ∀ S, Sub S0 S → g S) (hz : ds.length ≤ sizeLine)
    (hs : ∀ d ∈ ds, ∀ S, Sub S0 S → ∀ N : D → MS → Prop, N (.bl (f d)) S → wg d ρ0 S fun ρ1 S1 => we ρ1 S1 fun x _ S3 => N x S3) (q : Q (.bl (ds.any f)) S0) :
    ∀ a, S0 a = none → compW a g wg wYes we (fun S2 => endL false a S2 fun d S3 => cAny (rd S3 d) S3 Q) ρ0 ds (S0.set a (.lst [])) := by
  refine compL_map (Q := fun d S3 => cAny (rd S3 d) S3 Q) (fun d => .bl (f d)) hg hz hs ?_
  rw [map_bl]
  refine cAny_bl ?_
  rw [List.any_map]
  exact q
/-- all of them, each True -/
theorem compAllT {g : MS → Prop} {wg : WG} {we : DL.WE} {ρ0 : Rho} {S0 : MS} {Q : KV2} {ds : List D} (hg : ∀ S, Sub S0 S → g S) (hz : ds.length ≤ sizeLine)
    (hs : ∀ d ∈ ds, ∀ S, Sub S0 S → ∀ N : D → MS → Prop, N (.bl true) S → wg d ρ0 S fun ρ1 S1 => we ρ1 S1 fun x _ S3 => N x S3) (q : Q (.bl true) S0) :
    ∀ a, S0 a = none → compW a g wg wYes we (fun S2 => endL false a S2 fun d S3 => cAll (rd S3 d) S3 Q) ρ0 ds (S0.set a (.lst [])) := by
  refine compAll (fun _ => true) hg hz hs ?_
  rw [List.all_eq_true.mpr fun _ _ => rfl]
  exact q
/-- any of them, whatever each is -/
theorem compAnyF {g : MS → Prop} {wg : WG} {we : DL.WE} {ρ0 : Rho} {S0 : MS} {Q : KV2} {ds : List D} (hg : ∀ S, Sub S0 S → g S) (hz : ds.length ≤ sizeLine)
    (hs : ∀ d ∈ ds, ∀ S, Sub S0 S → ∀ N : D → MS → Prop, (∀ b, N (.bl b) S) → wg d ρ0 S fun ρ1 S1 => we ρ1 S1 fun x _ S3 => N x S3) (q : ∀ b, Q (.bl b) S0) :
    ∀ a, S0 a = none → compW a g wg wYes we (fun S2 => endL false a S2 fun d S3 => cAny (rd S3 d) S3 Q) ρ0 ds (S0.set a (.lst [])) := by
  refine compL_all (Q := fun d S3 => cAny (rd S3 d) S3 Q) (fun x => ∃ b, x = .bl b) hg hz (fun d hd S s N hN => hs d hd S s N fun b => hN _ ⟨b, rfl⟩) fun xs hl hx => ?_
  have : ∃ bs : List Bool, xs = bs.map D.bl := by
    clear hs hz q hl
    induction xs with
    | nil => exact ⟨[], rfl⟩
    | cons x xs ih =>
      obtain ⟨b, rfl⟩ := hx x List.mem_cons_self
      obtain ⟨bs, rfl⟩ := ih fun y hy => hx y (List.mem_cons_of_mem _ hy)
      exact ⟨b :: bs, rfl⟩
  obtain ⟨bs, rfl⟩ := this
  exact ⟨bs, rfl, q _⟩
theorem zipD_mem {xs ys : List D} {d : D} (h : d ∈ zipD xs ys) : ∃ i : Nat, i < xs.length ∧ i < ys.length ∧ d = .wtup [xs.getD i .non, ys.getD i .non] := by
  obtain ⟨i, hi, rfl⟩ := List.mem_map.mp h
  have := List.mem_range.mp hi
  exact ⟨i, by omega, by omega, rfl⟩
theorem wiZip_tup {wr : WA} {ρ : Rho} {S : MS} {Q : List D → (MS → Prop) → Rho → MS → Prop} {xs ys : List D} {ρ1 : Rho} {S1 : MS} (h : ∀ R : List D → Rho → MS → Prop, wr ρ S R ↔ R [.tup xs, .tup ys] ρ1 S1) : wiZip wr ρ S Q ↔ Q (zipD xs ys) noG ρ1 S1 := h _
theorem eqD_str {a b : Str} : eqD (.str a) (.str b) = decide (a = b) := by
  simp only [eqD, toPy, PyData.eqv]
  rfl
theorem flat_str {a : Str} : flatD (.str a) = true := rfl
theorem flat_non : flatD .non = true := rfl
theorem flat_bl {a : Bool} : flatD (.bl a) = true := rfl
theorem inD_nil {x : D} : inD x [] = false := rfl
theorem inD_cons {x y : D} {ds : List D} : inD x (y :: ds) = (eqD y x || inD x ds) := rfl
theorem okD_str {a : Str} (h : (PyData.str a).canLay0 = true) : okD (.str a) = true := by
  show SeqAt.shaped _ = true
  unfold SeqAt.shaped
  simp only [toPy, h, PyData.depth, Bool.true_and, decide_eq_true_eq]
  omega
theorem okD_pstr {a : Str} (h : pu (.str a) = true) : okD (.str a) = true := okD_str (by simpa [pu] using h)
theorem eqD_is {x y : D} (h : eqD x y = true) : ∀ i : Int, x = .int i → ∀ j : Int, y = .int j → i = j := by
  rintro i rfl j rfl
  rw [eqD_int] at h
  exact of_decide_eq_true h
end DL
/-! DL19: comprehensions with a known result; with a result that is a part. -/
namespace DL
open PySem PySem.Spec PyProof.Rows L2
/-- the result is xs, item by item -/
theorem compL_to {g : MS → Prop} {wg : WG} {we : DL.WE} {ρ0 : Rho} {S0 : MS} {Q : KV2} {ds : List D} (xs : List D) (hl : xs.length = ds.length) (hg : ∀ S, Sub S0 S → g S) (hz : ds.length ≤ sizeLine)
    (hs : ∀ (i : Nat) d x, ds[i]? = some d → xs[i]? = some x → ∀ S, Sub S0 S → ∀ N : D → MS → Prop, N x S → wg d ρ0 S fun ρ1 S1 => we ρ1 S1 fun x _ S3 => N x S3) (q : Q (.lst xs) S0) :
    ∀ a, S0 a = none → compW a g wg wYes we (fun S2 => endL false a S2 Q) ρ0 ds (S0.set a (.lst [])) := fun a ha => by
  refine compL_inv ha (fun dn td acc => dn ++ td = ds ∧ acc = xs.take dn.length) hg (fun dn d td acc ⟨e, ea⟩ N M hN hM => ?hs) (fun dn td acc ⟨e, ea⟩ hne => ?hz) (fun dn acc ⟨e, ea⟩ => ?hd) ds [] [] ⟨rfl, rfl⟩
  case hs =>
    have hlen : ds.length = dn.length + (td.length + 1) := by rw [← e]; simp
    have hx : dn.length < xs.length := by omega
    have h2 : xs[dn.length]? = some xs[dn.length] := List.getElem?_eq_getElem hx
    refine hs dn.length d xs[dn.length] (by rw [← e]; simp) h2 _ (Sub.set ha) _ ?_
    refine hN _ _ rfl ?_ ⟨by rw [← e]; simp, ?_⟩
    · rw [ea, List.length_take]
      omega
    · rw [ea, List.length_append, List.length_singleton, List.take_add_one, h2]
      rfl
  case hz =>
    rw [ea, List.length_take]
    have h1 : ds.length = dn.length + td.length := by rw [← e]; simp
    have h2 : 0 < td.length := List.length_pos_iff.mpr hne
    omega
  case hd =>
    rw [List.append_nil] at e
    subst e
    rw [← hl, List.take_length] at ea
    subst ea
    exact endL_f ha q
theorem compAllTo {g : MS → Prop} {wg : WG} {we : DL.WE} {ρ0 : Rho} {S0 : MS} {Q : KV2} {ds : List D} (bs : List Bool) (hl : bs.length = ds.length) (hg : ∀ S, Sub S0 S → g S) (hz : ds.length ≤ sizeLine)
    (hs : ∀ (i : Nat) d b, ds[i]? = some d → bs[i]? = some b → ∀ S, Sub S0 S → ∀ N : D → MS → Prop, N (.bl b) S → wg d ρ0 S fun ρ1 S1 => we ρ1 S1 fun x _ S3 => N x S3) (q : Q (.bl (bs.all id)) S0) :
    ∀ a, S0 a = none → compW a g wg wYes we (fun S2 => endL false a S2 fun d S3 => cAll (rd S3 d) S3 Q) ρ0 ds (S0.set a (.lst [])) := by
  refine compL_to (Q := fun d S3 => cAll (rd S3 d) S3 Q) (bs.map D.bl) (by rw [List.length_map]; exact hl) hg hz (fun i d x h1 h2 => ?_) ⟨bs, rfl, q⟩
  rw [List.getElem?_map] at h2
  cases e : bs[i]? with
  | none => rw [e] at h2; cases h2
  | some b =>
    rw [e] at h2
    cases h2
    exact hs i d b h1 e
theorem compAnyTo {g : MS → Prop} {wg : WG} {we : DL.WE} {ρ0 : Rho} {S0 : MS} {Q : KV2} {ds : List D} (bs : List Bool) (hl : bs.length = ds.length) (hg : ∀ S, Sub S0 S → g S) (hz : ds.length ≤ sizeLine)
    (hs : ∀ (i : Nat) d b, ds[i]? = some d → bs[i]? = some b → ∀ S, Sub S0 S → ∀ N : D → MS → Prop, N (.bl b) S → wg d ρ0 S fun ρ1 S1 => we ρ1 S1 fun x _ S3 => N x S3) (q : Q (.bl (bs.any id)) S0) :
    ∀ a, S0 a = none → compW a g wg wYes we (fun S2 => endL false a S2 fun d S3 => cAny (rd S3 d) S3 Q) ρ0 ds (S0.set a (.lst [])) := by
  refine compL_to (Q := fun d S3 => cAny (rd S3 d) S3 Q) (bs.map D.bl) (by rw [List.length_map]; exact hl) hg hz (fun i d x h1 h2 => ?_) ⟨bs, rfl, q⟩
  rw [List.getElem?_map] at h2
  cases e : bs[i]? with
  | none => rw [e] at h2; cases h2
  | some b =>
    rw [e] at h2
    cases h2
    exact hs i d b h1 e
/-- some of them, whichever -/
theorem compL_sub {g : MS → Prop} {wg : WG} {wt : WT} {we : DL.WE} {ρ0 : Rho} {S0 : MS} {Q : KV2} {ds : List D} (f : D → D) (hg : ∀ S, Sub S0 S → g S) (hz : ds.length ≤ sizeLine)
    (hs : ∀ d ∈ ds, ∀ S, Sub S0 S → ∀ (N : D → MS → Prop) (M : MS → Prop), N (f d) S → M S → wg d ρ0 S fun ρ1 S1 => wt ρ1 S1 fun b ρ2 S2 => if b = true then we ρ2 S2 fun x _ S3 => N x S3 else M S2) (q : ∀ xs : List D, xs.Sublist ds → Q (.lst (xs.map f)) S0) :
    ∀ a, S0 a = none → compW a g wg wt we (fun S2 => endL false a S2 Q) ρ0 ds (S0.set a (.lst [])) := fun a ha => by
  refine compL_inv ha (fun dn td acc => dn ++ td = ds ∧ ∃ xs : List D, xs.Sublist dn ∧ acc = xs.map f) hg (fun dn d td acc ⟨e, xs, hx, ea⟩ N M hN hM => ?hs) (fun dn td acc ⟨e, xs, hx, ea⟩ hne => ?hz) (fun dn acc ⟨e, xs, hx, ea⟩ => ?hd) ds [] [] ⟨rfl, [], List.Sublist.refl _, rfl⟩
  case hs =>
    have hd : d ∈ ds := by rw [← e]; simp
    refine hs d hd _ (Sub.set ha) _ _ ?_ ?_
    · refine hN (f d) _ rfl ?_ ⟨by rw [← e]; simp, xs ++ [d], List.Sublist.append hx (List.Sublist.refl _), by rw [ea]; simp⟩
      rw [ea, List.length_map]
      have h1 := hx.length_le
      have : ds.length = dn.length + (td.length + 1) := by rw [← e]; simp
      omega
    · exact hM _ rfl ⟨by rw [← e]; simp, xs, hx.trans (List.sublist_append_left dn [d]), ea⟩
  case hz =>
    rw [ea, List.length_map]
    have h0 := hx.length_le
    have h1 : ds.length = dn.length + td.length := by rw [← e]; simp
    have h2 : 0 < td.length := List.length_pos_iff.mpr hne
    omega
  case hd =>
    rw [List.append_nil] at e
    subst e ea
    exact endL_f ha (q xs hx)
theorem getD_int {ns : List Int} {i : Nat} (h : i < ns.length) : (ns.map D.int).getD i .non = .int ns[i] := by
  rw [List.getD_eq_getElem?_getD, List.getElem?_map, List.getElem?_eq_getElem h]; rfl
theorem getD_map {α : Type} {f : α → D} {ns : List α} {i : Nat} (h : i < ns.length) : (ns.map f).getD i .non = f ns[i] := by
  rw [List.getD_eq_getElem?_getD, List.getElem?_map, List.getElem?_eq_getElem h]; rfl
theorem wIxt {xs : List D} {i : Int} {S : MS} {Q : KV2} (h0 : 0 ≤ i) (h1 : i < xs.length) (q : Q (xs.getD i.toNat .non) S) : wIx (.tup xs) (.int i) S Q := (z_ixt_lt h0 h1).mpr q
end DL
/-! DL20: comprehensions whose list is kept. -/
namespace DL
open PySem PySem.Spec PyProof.Rows L2
/-- the result is xs, item by item; the list may change later -/
theorem compL_toT {g : MS → Prop} {wg : WG} {we : DL.WE} {ρ0 : Rho} {S0 : MS} {Q : KV2} {ds : List D} (xs : List D) (hl : xs.length = ds.length) (hg : ∀ S, Sub S0 S → g S) (hz : ds.length ≤ sizeLine)
    (hs : ∀ (i : Nat) d x, ds[i]? = some d → xs[i]? = some x → ∀ S, Sub S0 S → ∀ N : D → MS → Prop, N x S → wg d ρ0 S fun ρ1 S1 => we ρ1 S1 fun x _ S3 => N x S3) (q : ∀ a, S0 a = none → Q (.ref a) (S0.set a (.lst xs))) :
    ∀ a, S0 a = none → compW a g wg wYes we (fun S2 => endL true a S2 Q) ρ0 ds (S0.set a (.lst [])) := fun a ha => by
  refine compL_inv ha (fun dn td acc => dn ++ td = ds ∧ acc = xs.take dn.length) hg (fun dn d td acc ⟨e, ea⟩ N M hN hM => ?hs) (fun dn td acc ⟨e, ea⟩ hne => ?hz) (fun dn acc ⟨e, ea⟩ => ?hd) ds [] [] ⟨rfl, rfl⟩
  case hs =>
    have hlen : ds.length = dn.length + (td.length + 1) := by rw [← e]; simp
    have hx : dn.length < xs.length := by omega
    have h2 : xs[dn.length]? = some xs[dn.length] := List.getElem?_eq_getElem hx
    refine hs dn.length d xs[dn.length] (by rw [← e]; simp) h2 _ (Sub.set ha) _ ?_
    refine hN _ _ rfl ?_ ⟨by rw [← e]; simp, ?_⟩
    · rw [ea, List.length_take]
      omega
    · rw [ea, List.length_append, List.length_singleton, List.take_add_one, h2]
      rfl
  case hz =>
    rw [ea, List.length_take]
    have h1 : ds.length = dn.length + td.length := by rw [← e]; simp
    have h2 : 0 < td.length := List.length_pos_iff.mpr hne
    omega
  case hd =>
    rw [List.append_nil] at e
    subst e
    rw [← hl, List.take_length] at ea
    subst ea
    exact endL_t (q a ha)
theorem MS.set_t {S : MS} {t e : Addr} {m x : MO} (ht : S t = some x) (he : S e = none) : (S.set e m) t = some x := by
  rw [MS.set_ne (MS.ne_of ht he)]
  exact ht
end DL
/-! DL21: dicts whose keys are ints and texts: made to change, read, asked, written. -/
namespace DL
open PySem PySem.Spec PyProof.Rows L2
def keyD : Key → D
  | .inl i => .int i
  | .inr x => .str x
def lookD : List Key → List D → Key → Option D
  | k' :: ks, d :: ds, k => if k' = k then some d else lookD ks ds k
  | _, _, _ => none
def putDs (k : Key) (v : D) : List Key → List D → List D
  | k' :: ks, d :: ds => (if k' = k then v else d) :: putDs k v ks ds
  | _, _ => []
def hasK (k : Key) (ks : List Key) : Bool := ks.any fun x => decide (x = k)
def putDic (k : Key) (v : D) (ks : List Key) (ds : List D) : MO := if hasK k ks = true then .dic ks (putDs k v ks ds) else .dic (ks ++ [k]) (ds ++ [v])
section
variable {K : PySem.W.Frag} {F F' H H' : Hp} {S : MS}
theorem rep_key {k : Key} {v : V} (r : Rep K F (keyD k) v) : v = kV k := by
  cases k <;> (cases r; rfl)
theorem reps_look {k : Key} : ∀ {kvs : List (Key × V)} {ds : List D} {d : D}, Reps K F ds (kvs.map (·.2)) → lookD (kvs.map (·.1)) ds k = some d → ∃ v, valV kvs k = some v ∧ Rep K F d v
  | [], ds, d, r, e => by cases r; cases e
  | (k', v) :: kvs, ds, d, r, e => by
    cases r with
    | @cons x _ ds' _ r1 r2 =>
      simp only [List.map_cons, lookD] at e
      by_cases h : k' = k
      · rw [if_pos h] at e
        cases e
        exact ⟨v, valV_pos h, r1⟩
      · rw [if_neg h] at e
        obtain ⟨u, h1, h2⟩ := reps_look r2 e
        exact ⟨u, by rw [valV_neg h]; exact h1, h2⟩
theorem val_mem {k : Key} (kvs : List (Key × V)) : (valV kvs k).isSome = hasK k (kvs.map (·.1)) := by
  rw [← valV_any, hasK, List.any_map]
  rfl
theorem reps_putD {k : Key} {v : V} {y : D} (ry : Rep K F y v) : ∀ {kvs : List (Key × V)} {ds : List D}, Reps K F ds (kvs.map (·.2)) → Reps K F (putDs k y (kvs.map (·.1)) ds) ((kvs.map fun kv => if kv.1 = k then (kv.1, v) else kv).map (·.2))
  | [], ds, r => by cases r; exact .nil
  | (k', x) :: kvs, ds, r => by
    cases r with
    | @cons d _ ds' _ r1 r2 =>
      have ih := reps_putD (k := k) ry r2
      simp only [List.map_cons, putDs]
      by_cases h : k' = k
      · rw [if_pos h, if_pos h]
        exact .cons ry ih
      · rw [if_neg h, if_neg h]
        exact .cons r1 ih
theorem keys_repl {k : Key} {v : V} (kvs : List (Key × V)) : (kvs.map fun kv => if kv.1 = k then (kv.1, v) else kv).map (·.1) = kvs.map (·.1) := by
  rw [List.map_map]
  refine List.map_congr_left fun p _ => ?_
  show (if p.1 = k then (p.1, v) else p).1 = p.1
  split <;> rfl
end
section
variable {X : Cx} {L : Lk} {K : PySem.W.Frag} {o i e value : Expr} {td ty tv : TE} {wd wy wv : WE} {pos pos' : Pos}
/-! ### {} that may change -/
def wDicN : WE := fun ρ S Q => ∀ a, S a = none → Q (.ref a) ρ (S.set a (.dic [] []))
theorem re_dicN : RE K L tDNewK wDicN := by
  intro F ρ S σ H Q R m q k p hp
  obtain ⟨sp, fp⟩ := m.fs.notS hp
  exact k _ _ _ ρ _ F (ExF.refl F) (m.step (ExF.refl F) (m.fs.alloc (m := .dic [] []) hp rfl ⟨[], upd_same, rfl, .nil⟩)) (.ref p) (q p sp)
theorem de_dicN : DE X L (.Dict [] [] pos) tDNewK wDicN := ⟨pe_dnewK, re_dicN⟩
/-! ### d[k] -/
def rDGet : R2 := fun x y H Q => ∃ a v, x = .ref a ∧ DGet H a y (some v) ∧ Q v H
def wDGet : D → D → MS → KV2 → Prop := fun x y S Q => ∃ ks ds k d, x = .dic ks ds ∧ y = keyD k ∧ lookD ks ds k = some d ∧ Q d S
theorem ro_dget : RO2 K rDGet wDGet := by
  rintro F S H x y vx vy Q R fs rx ry ⟨ks, ds, k, d, rfl, rfl, e, q⟩ kk
  obtain ⟨a, kvs, rfl, h1, h2, h3⟩ := rx
  subst h2
  have ry' : vy = kV k := rep_key (K := K) (F := F) (by cases k <;> exact ry)
  subst ry'
  obtain ⟨v, h4, h5⟩ := reps_look h3 e
  exact ⟨a, v, rfl, by rw [← h4]; exact DGet.k h1, kk v H d S F (ExF.refl F) fs h5 q⟩
theorem de_dget (hu : X.A.units + 65 < cLine) (ho : DE X L o td wd) (hi : DE X L i ty wy) (hs : NoSl i) : DE X L (.Subscript o i pos) (tDGet td ty) (wOp wDGet wd wy) :=
  ⟨pe_dget (by omega) ho.pe hi.pe hs, re_op ro_dget ho.re hi.re⟩
/-! ### k in d -/
def rDIn (neg : Bool) : R2 := fun y x H Q => ∃ a o, x = .ref a ∧ DGet H a y o ∧ Q (.bl (if neg then !o.isSome else o.isSome)) H
def wDIn (neg : Bool) : D → D → MS → KV2 → Prop := fun y x S Q => ∃ ks ds k, x = .dic ks ds ∧ y = keyD k ∧ Q (.bl (if neg then !hasK k ks else hasK k ks)) S
theorem op_dIn (hu : X.A.units + 65 < cLine) : OpR X (compareOp .In) (rDIn false) := fun pins s σ H x y v u Q I rx ry ⟨a, o, ey, g, q⟩ => by
  subst ey
  obtain rfl : u = Value.ref a := ry
  exact d_in (by omega) I g rx fun s' I' => ⟨.bl o.isSome, H, I', rfl, q⟩
theorem op_dNotIn (hu : X.A.units + 65 < cLine) : OpR X (compareOp .NotIn) (rDIn true) := fun pins s σ H x y v u Q I rx ry ⟨a, o, ey, g, q⟩ => by
  subst ey
  obtain rfl : u = Value.ref a := ry
  exact d_notIn (by omega) I g rx fun s' I' => ⟨.bl (!o.isSome), H, I', rfl, q⟩
theorem ro_dIn (neg : Bool) : RO2 K (rDIn neg) (wDIn neg) := by
  rintro F S H y x vy vx Q R fs ry rx ⟨ks, ds, k, rfl, rfl, q⟩ kk
  obtain ⟨a, kvs, rfl, h1, h2, h3⟩ := rx
  subst h2
  have ry' : vy = kV k := rep_key (K := K) (F := F) (by cases k <;> exact ry)
  subst ry'
  refine ⟨a, valV kvs k, rfl, DGet.k h1, kk _ H _ S F (ExF.refl F) fs (.bl _) ?_⟩
  rw [val_mem]
  exact q
/-! ### d[k] = v -/
def wDPut (wd wy wv : WE) : WS := fun De ρ S => wv ρ S fun v ρ1 S1 => wd ρ1 S1 fun x ρ2 S2 => wy ρ2 S2 fun y ρ3 S3 => ∃ a ks ds k, x = .ref a ∧ S3 a = some (.dic ks ds) ∧ y = keyD k ∧ ks.length < sizeLine ∧ De.nx ρ3 (S3.set a (putDic k v ks ds))
theorem rs_dput (hd : RE K L td wd) (hy : RE K L ty wy) (hv : RE K L tv wv) : RS K L (sDPut td ty tv) (wDPut wd wy wv) := by
  intro F ρ S σ H De D m q l
  refine hv F ρ S σ H _ _ m q fun v H1 dv ρ1 S1 F1 e1 m1 r1 q1 => ?_
  refine hd F1 ρ1 S1 σ H1 _ _ m1 q1 fun x H2 dx ρ2 S2 F2 e2 m2 r2 q2 => ?_
  refine hy F2 ρ2 S2 σ H2 _ _ m2 q2 fun y H3 dy ρ3 S3 F3 e3 m3 r3 ⟨a, ks, ds, k, hx, hs, hy, hl, q3⟩ => ?_
  subst hx hy
  cases r2
  obtain rfl := rep_key r3
  obtain ⟨_, kvs, h1, h2, h3⟩ := m3.fs.st a _ hs
  subst h2
  rw [List.length_map] at hl
  refine ⟨a, _, rfl, DPut.k h1 hl, ?_⟩
  refine l.nx F3 ρ3 _ σ _ ((e1.trans e2).trans e3) (m3.step (ExF.refl F3) ?_) q3
  have rv : Rep K F3 dv v := r1.up (e2.trans e3)
  unfold putDic
  by_cases hk : hasK k (kvs.map (·.1)) = true
  · rw [if_pos hk]
    have e : putK kvs k v = kvs.map fun kv => if kv.1 = k then (kv.1, v) else kv := by
      unfold putK
      rw [valV_any, val_mem, if_pos hk]
    rw [e]
    exact m3.fs.write hs rfl ⟨_, upd_same, keys_repl kvs, reps_putD rv h3⟩
  · rw [if_neg hk]
    have e : putK kvs k v = kvs ++ [(k, v)] := by
      unfold putK
      rw [valV_any, val_mem, if_neg hk]
    rw [e]
    exact m3.fs.write hs rfl ⟨_, upd_same, by rw [List.map_append]; rfl, by rw [List.map_append]; exact h3.append (.cons rv .nil)⟩
theorem ds_dput (hu : X.A.units + 65 < cLine) (ho : DE X L o td wd) (hi : DE X L i ty wy) (hv : DE X L value tv wv) (hs : swapsWith value (some (.Subscript o i pos')) pos.line X.env = pure false := by rfl) :
    DS X L (.Assign [.Subscript o i pos'] value pos) (sDPut td ty tv) (wDPut wd wy wv) := ⟨ps_dput (by omega) ho.pe hi.pe hv.pe hs, rs_dput ho.re hi.re hv.re⟩
end
/-! ### readings, to rewrite with -/
theorem rd_ins {S : MS} {a : Addr} {C : Str} {ns : List Str} {ds : List D} (h : S a = some (.ins C ns ds)) : rd S (.ref a) = .obj C ns ds := by
  show rdM a (S a) = _
  rw [h]
  rfl
/-- what is read of an instance stays in a greater store -/
theorem rd_sub {S S' : MS} (s : Sub S S') {x : D} {C : Str} {ns : List Str} {ds : List D} (h : rd S x = .obj C ns ds) : rd S' x = .obj C ns ds := by
  cases x with
  | ref a =>
    cases e : S a with
    | none =>
      have : rdM a (S a) = D.obj C ns ds := h
      rw [e] at this
      cases this
    | some m =>
      have h1 : rdM a (S a) = D.obj C ns ds := h
      show rdM a (S' a) = _
      rw [s a m e, ← e]
      exact h1
  | _ => exact h
end DL
/-! DL22: comprehensions over a list that is given as what is made of another. -/
namespace DL
open PySem PySem.Spec PyProof.Rows L2
/-- [h x for x in l if c x], the list given as l.map f -/
theorem compL_fm {α : Type} {l : List α} {f : α → D} {g : MS → Prop} {wg : WG} {wt : WT} {we : DL.WE} {ρ0 : Rho} {S0 : MS} {Q : KV2} (h : α → D) (c : α → Bool) (hg : ∀ S, Sub S0 S → g S) (hz : l.length ≤ sizeLine)
    (hs : ∀ x ∈ l, ∀ S, Sub S0 S → ∀ (N : D → MS → Prop) (M : MS → Prop), (c x = true → N (h x) S) → (c x = false → M S) → wg (f x) ρ0 S fun ρ1 S1 => wt ρ1 S1 fun b ρ2 S2 => if b = true then we ρ2 S2 fun x _ S3 => N x S3 else M S2) (q : Q (.lst ((l.filter c).map h)) S0) :
    ∀ a, S0 a = none → compW a g wg wt we (fun S2 => endL false a S2 Q) ρ0 (l.map f) (S0.set a (.lst [])) := fun a ha => by
  refine compL_inv ha (fun dn td acc => ∃ dl tl, dl ++ tl = l ∧ dn = dl.map f ∧ td = tl.map f ∧ acc = (dl.filter c).map h) hg (fun dn d td acc ⟨dl, tl, e, e1, e2, ea⟩ N M hN hM => ?hs) (fun dn td acc ⟨dl, tl, e, e1, e2, ea⟩ hne => ?hz) (fun dn acc ⟨dl, tl, e, e1, e2, ea⟩ => ?hd) (l.map f) [] [] ⟨[], l, rfl, rfl, rfl, rfl⟩
  case hs =>
    obtain ⟨x, tl, rfl, rfl, rfl⟩ : ∃ x tl', tl = x :: tl' ∧ d = f x ∧ td = tl'.map f := by
      cases tl with
      | nil => cases e2
      | cons x tl => cases e2; exact ⟨x, tl, rfl, rfl, rfl⟩
    have hx : x ∈ l := by rw [← e]; simp
    refine hs x hx _ (Sub.set ha) _ _ (fun hc => ?_) (fun hc => ?_)
    · refine hN (h x) _ rfl ?_ ⟨dl ++ [x], tl, by rw [← e]; simp, by rw [e1]; simp, rfl, by rw [ea]; simp [hc]⟩
      rw [ea, List.length_map]
      have h1 := List.length_filter_le c dl
      have : l.length = dl.length + (tl.length + 1) := by rw [← e]; simp
      omega
    · exact hM _ rfl ⟨dl ++ [x], tl, by rw [← e]; simp, by rw [e1]; simp, rfl, by rw [ea]; simp [hc]⟩
  case hz =>
    rw [ea, List.length_map]
    have h0 := List.length_filter_le c dl
    have h1 : l.length = dl.length + tl.length := by rw [← e]; simp
    have h2 : 0 < tl.length := List.length_pos_iff.mpr fun z => hne (by rw [e2, z]; rfl)
    omega
  case hd =>
    have : tl = [] := by cases tl with
      | nil => rfl
      | cons x tl => cases e2
    subst this
    rw [List.append_nil] at e
    subst e ea
    exact endL_f ha q
/-- [h x for x in l], the list given as l.map f -/
theorem compL_mm {α : Type} {l : List α} {f : α → D} {g : MS → Prop} {wg : WG} {we : DL.WE} {ρ0 : Rho} {S0 : MS} {Q : KV2} (h : α → D) (hg : ∀ S, Sub S0 S → g S) (hz : l.length ≤ sizeLine)
    (hs : ∀ x ∈ l, ∀ S, Sub S0 S → ∀ N : D → MS → Prop, N (h x) S → wg (f x) ρ0 S fun ρ1 S1 => we ρ1 S1 fun x _ S3 => N x S3) (q : Q (.lst (l.map h)) S0) :
    ∀ a, S0 a = none → compW a g wg wYes we (fun S2 => endL false a S2 Q) ρ0 (l.map f) (S0.set a (.lst [])) := by
  refine compL_to (l.map h) (by rw [List.length_map, List.length_map]) hg (by rw [List.length_map]; exact hz) (fun i d x h1 h2 S sub N hN => ?_) q
  rw [List.getElem?_map] at h1 h2
  cases e : l[i]? with
  | none => rw [e] at h1; cases h1
  | some y =>
    rw [e] at h1 h2
    cases h1
    cases h2
    exact hs y (List.mem_of_getElem? e) S sub N hN
theorem compAllM {α : Type} {l : List α} {f : α → D} {g : MS → Prop} {wg : WG} {we : DL.WE} {ρ0 : Rho} {S0 : MS} {Q : KV2} (c : α → Bool) (hg : ∀ S, Sub S0 S → g S) (hz : l.length ≤ sizeLine)
    (hs : ∀ x ∈ l, ∀ S, Sub S0 S → ∀ N : D → MS → Prop, N (.bl (c x)) S → wg (f x) ρ0 S fun ρ1 S1 => we ρ1 S1 fun x _ S3 => N x S3) (q : Q (.bl (l.all c)) S0) :
    ∀ a, S0 a = none → compW a g wg wYes we (fun S2 => endL false a S2 fun d S3 => cAll (rd S3 d) S3 Q) ρ0 (l.map f) (S0.set a (.lst [])) := by
  refine compL_mm (Q := fun d S3 => cAll (rd S3 d) S3 Q) (fun x => .bl (c x)) hg hz hs ⟨l.map c, by rw [List.map_map]; rfl, ?_⟩
  rw [List.all_map]
  exact q
theorem compAnyM {α : Type} {l : List α} {f : α → D} {g : MS → Prop} {wg : WG} {we : DL.WE} {ρ0 : Rho} {S0 : MS} {Q : KV2} (c : α → Bool) (hg : ∀ S, Sub S0 S → g S) (hz : l.length ≤ sizeLine)
    (hs : ∀ x ∈ l, ∀ S, Sub S0 S → ∀ N : D → MS → Prop, N (.bl (c x)) S → wg (f x) ρ0 S fun ρ1 S1 => we ρ1 S1 fun x _ S3 => N x S3) (q : Q (.bl (l.any c)) S0) :
    ∀ a, S0 a = none → compW a g wg wYes we (fun S2 => endL false a S2 fun d S3 => cAny (rd S3 d) S3 Q) ρ0 (l.map f) (S0.set a (.lst [])) := by
  refine compL_mm (Q := fun d S3 => cAny (rd S3 d) S3 Q) (fun x => .bl (c x)) hg hz hs ⟨l.map c, by rw [List.map_map]; rfl, ?_⟩
  rw [List.any_map]
  exact q
theorem okD_rows {rs : List (List Int)} : okD (.lst (rs.map tupI)) = true := okL_mono (okL_lst (n := 1) fun d hd => by
  obtain ⟨r, _, rfl⟩ := List.mem_map.mp hd
  exact okL_row (Nat.le_refl 1) r) (by decide)
theorem okD_rowsT {rs : List (List Int)} : okD (.tup (rs.map tupI)) = true := okL_mono (okL_tup (n := 1) fun d hd => by
  obtain ⟨r, _, rfl⟩ := List.mem_map.mp hd
  exact okL_row (Nat.le_refl 1) r) (by decide)
theorem okD_row {r : List Int} : okD (tupI r) = true := okL_row (n := 64) (by decide) r
theorem eqD_nil_c {x : D} {xs : List D} : eqD (.lst (x :: xs)) (.lst []) = false := rfl
theorem eqD_nil_n : eqD (.lst []) (.lst []) = true := rfl
theorem okD_nil : okD (.lst []) = true := by decide +kernel
theorem eqD_nil_map {α : Type} {f : α → D} {l : List α} : eqD (.lst (l.map f)) (.lst []) = l.isEmpty := by cases l <;> rfl
theorem MS.set_id {S : MS} {a : Addr} {m : MO} (h : S a = some m) : S.set a m = S := by
  funext b
  unfold MS.set
  split
  · rename_i e; rw [e, h]
  · rfl
end DL
namespace W35
open PySem PySem.Spec PyProof.Rows L2 DL
def topS (i : Nat) : Stmt := PySem.Challenge.pw_layertold_k35_whole_same_sayings_and_wha.main.body.getD i (.Pass ⟨0, 0, 0, 0⟩)
def inS (i j : Nat) : Stmt := match topS i with
  | .ClassDef _ _ _ b _ _ _ _ _ _ _ => b.getD j (.Pass ⟨0, 0, 0, 0⟩)
  | _ => .Pass ⟨0, 0, 0, 0⟩
abbrev s_is_integer : Stmt := topS 1
abbrev s_is_within : Stmt := topS 2
abbrev s_is_tuple : Stmt := topS 3
abbrev s_is_row : Stmt := topS 4
abbrev s_is_lot : Stmt := topS 5
abbrev s_is_pair : Stmt := topS 16
abbrev s_are_overs : Stmt := topS 17
abbrev s_is_bound : Stmt := topS 18
abbrev s_is_date : Stmt := topS 19
abbrev s_is_kind : Stmt := topS 20
abbrev s_is_dated : Stmt := topS 22
abbrev s_stands_first : Stmt := topS 25
abbrev s_is_unbroken : Stmt := topS 26
abbrev s_longer : Stmt := topS 27
abbrev s_fitting : Stmt := topS 28
abbrev s_saying_in : Stmt := topS 32
abbrev s_check_saying : Stmt := topS 33
abbrev s_is_so : Stmt := topS 34
abbrev s_those_so : Stmt := topS 35
abbrev s_always : Stmt := topS 36
abbrev s_same_saying : Stmt := topS 37
abbrev s_follows_so : Stmt := topS 38
abbrev s__law_hand : Stmt := topS 40
abbrev s__law_draw : Stmt := topS 41
abbrev s__law_some : Stmt := topS 42
abbrev s__law_is : Stmt := topS 43
abbrev s__law_shuffled : Stmt := topS 44
abbrev s__law_spec : Stmt := topS 45
abbrev s__law_can_go : Stmt := topS 46
abbrev s__law_fitting : Stmt := topS 47
abbrev s__law_case : Stmt := topS 48
abbrev s__law_saying : Stmt := topS 49
abbrev s__law_so : Stmt := topS 50
abbrev s__law_turned : Stmt := topS 51
abbrev s_law : Stmt := topS 52
abbrev s_Book___init__ : Stmt := inS 21 0
abbrev s_Book___eq__ : Stmt := inS 21 1
abbrev s_Book_parts : Stmt := inS 21 2
def fa : List He.Fa := [.glo "is_integer", .glo "is_within", .glo "is_tuple", .glo "is_row", .glo "is_lot", .glo "is_pair", .glo "are_overs", .glo "is_bound", .glo "is_date", .glo "is_kind", .glo "is_dated", .glo "stands_first", .glo "is_unbroken", .glo "longer", .glo "fitting", .glo "saying_in", .glo "check_saying", .glo "is_so", .glo "those_so", .glo "always", .glo "same_saying", .glo "follows_so", .glo "_law_hand", .glo "_law_draw", .glo "_law_some", .glo "_law_is", .glo "_law_shuffled", .glo "_law_spec", .glo "_law_can_go", .glo "_law_fitting", .glo "_law_case", .glo "_law_saying", .glo "_law_so", .glo "_law_turned", .glo "law", .glo "Book", .int "MOST_LAYERS" 16, .int "MOST_KINDS" 16, .int "FARTHEST" 100000, .int "MOST_ORDERS" 5040, .int "DEEPEST" 6, .int "MOST_SAYINGS" 6, .free "abs", .free "all", .free "any", .free "bool", .free "enumerate", .free "int", .free "isinstance", .free "len", .free "list", .free "range", .free "repr", .free "sorted", .free "str", .free "tuple", .free "zip", .cls "Book", .mkr "Book", .noat "Book" "looked", .noat "Book" "count", .noat "Book" "overs", .noat "Book" "dates", .noat "Book" "kinds"]
def d_is_integer : He.DefD := ⟨("is_integer", none), "is_integer", "is_integer", defArgs s_is_integer, defBody s_is_integer, defScope s_is_integer, [], []⟩
def d_is_within : He.DefD := ⟨("is_within", none), "is_within", "is_within", defArgs s_is_within, defBody s_is_within, defScope s_is_within, [], []⟩
def d_is_tuple : He.DefD := ⟨("is_tuple", none), "is_tuple", "is_tuple", defArgs s_is_tuple, defBody s_is_tuple, defScope s_is_tuple, [], []⟩
def d_is_row : He.DefD := ⟨("is_row", none), "is_row", "is_row", defArgs s_is_row, defBody s_is_row, defScope s_is_row, [], []⟩
def d_is_lot : He.DefD := ⟨("is_lot", none), "is_lot", "is_lot", defArgs s_is_lot, defBody s_is_lot, defScope s_is_lot, [], []⟩
def d_is_pair : He.DefD := ⟨("is_pair", none), "is_pair", "is_pair", defArgs s_is_pair, defBody s_is_pair, defScope s_is_pair, [], []⟩
def d_are_overs : He.DefD := ⟨("are_overs", none), "are_overs", "are_overs", defArgs s_are_overs, defBody s_are_overs, defScope s_are_overs, [], []⟩
def d_is_bound : He.DefD := ⟨("is_bound", none), "is_bound", "is_bound", defArgs s_is_bound, defBody s_is_bound, defScope s_is_bound, [], []⟩
def d_is_date : He.DefD := ⟨("is_date", none), "is_date", "is_date", defArgs s_is_date, defBody s_is_date, defScope s_is_date, [], []⟩
def d_is_kind : He.DefD := ⟨("is_kind", none), "is_kind", "is_kind", defArgs s_is_kind, defBody s_is_kind, defScope s_is_kind, [], []⟩
def d_is_dated : He.DefD := ⟨("is_dated", none), "is_dated", "is_dated", defArgs s_is_dated, defBody s_is_dated, defScope s_is_dated, [], []⟩
def d_stands_first : He.DefD := ⟨("stands_first", none), "stands_first", "stands_first", defArgs s_stands_first, defBody s_stands_first, defScope s_stands_first, [], []⟩
def d_is_unbroken : He.DefD := ⟨("is_unbroken", none), "is_unbroken", "is_unbroken", defArgs s_is_unbroken, defBody s_is_unbroken, defScope s_is_unbroken, [], []⟩
def d_longer : He.DefD := ⟨("longer", none), "longer", "longer", defArgs s_longer, defBody s_longer, defScope s_longer, [], []⟩
def d_fitting : He.DefD := ⟨("fitting", none), "fitting", "fitting", defArgs s_fitting, defBody s_fitting, defScope s_fitting, [], []⟩
def d_saying_in : He.DefD := ⟨("saying_in", none), "saying_in", "saying_in", defArgs s_saying_in, defBody s_saying_in, defScope s_saying_in, [], []⟩
def d_check_saying : He.DefD := ⟨("check_saying", none), "check_saying", "check_saying", defArgs s_check_saying, defBody s_check_saying, defScope s_check_saying, [], []⟩
def d_is_so : He.DefD := ⟨("is_so", none), "is_so", "is_so", defArgs s_is_so, defBody s_is_so, defScope s_is_so, [], []⟩
def d_those_so : He.DefD := ⟨("those_so", none), "those_so", "those_so", defArgs s_those_so, defBody s_those_so, defScope s_those_so, [], []⟩
def d_always : He.DefD := ⟨("always", none), "always", "always", defArgs s_always, defBody s_always, defScope s_always, [], []⟩
def d_same_saying : He.DefD := ⟨("same_saying", none), "same_saying", "same_saying", defArgs s_same_saying, defBody s_same_saying, defScope s_same_saying, [], []⟩
def d_follows_so : He.DefD := ⟨("follows_so", none), "follows_so", "follows_so", defArgs s_follows_so, defBody s_follows_so, defScope s_follows_so, [], []⟩
def d__law_hand : He.DefD := ⟨("_law_hand", none), "_law_hand", "_law_hand", defArgs s__law_hand, defBody s__law_hand, defScope s__law_hand, [], []⟩
def d__law_draw : He.DefD := ⟨("_law_draw", none), "_law_draw", "_law_draw", defArgs s__law_draw, defBody s__law_draw, defScope s__law_draw, [], []⟩
def d__law_some : He.DefD := ⟨("_law_some", none), "_law_some", "_law_some", defArgs s__law_some, defBody s__law_some, defScope s__law_some, [], []⟩
def d__law_is : He.DefD := ⟨("_law_is", none), "_law_is", "_law_is", defArgs s__law_is, defBody s__law_is, defScope s__law_is, [], []⟩
def d__law_shuffled : He.DefD := ⟨("_law_shuffled", none), "_law_shuffled", "_law_shuffled", defArgs s__law_shuffled, defBody s__law_shuffled, defScope s__law_shuffled, [], []⟩
def d__law_spec : He.DefD := ⟨("_law_spec", none), "_law_spec", "_law_spec", defArgs s__law_spec, defBody s__law_spec, defScope s__law_spec, [], []⟩
def d__law_can_go : He.DefD := ⟨("_law_can_go", none), "_law_can_go", "_law_can_go", defArgs s__law_can_go, defBody s__law_can_go, defScope s__law_can_go, [], []⟩
def d__law_fitting : He.DefD := ⟨("_law_fitting", none), "_law_fitting", "_law_fitting", defArgs s__law_fitting, defBody s__law_fitting, defScope s__law_fitting, [], []⟩
def d__law_case : He.DefD := ⟨("_law_case", none), "_law_case", "_law_case", defArgs s__law_case, defBody s__law_case, defScope s__law_case, [], []⟩
def d__law_saying : He.DefD := ⟨("_law_saying", none), "_law_saying", "_law_saying", defArgs s__law_saying, defBody s__law_saying, defScope s__law_saying, [], []⟩
def d__law_so : He.DefD := ⟨("_law_so", none), "_law_so", "_law_so", defArgs s__law_so, defBody s__law_so, defScope s__law_so, [], []⟩
def d__law_turned : He.DefD := ⟨("_law_turned", none), "_law_turned", "_law_turned", defArgs s__law_turned, defBody s__law_turned, defScope s__law_turned, [], []⟩
def d_law : He.DefD := ⟨("law", none), "law", "law", defArgs s_law, defBody s_law, defScope s_law, [], []⟩
def d_Book___init__ : He.DefD := ⟨("Book", some "__init__"), "__init__", "Book.__init__", defArgs s_Book___init__, defBody s_Book___init__, defScope s_Book___init__, [], []⟩
def fn : List He.DefD := [d_is_integer, d_is_within, d_is_tuple, d_is_row, d_is_lot, d_is_pair, d_are_overs, d_is_bound, d_is_date, d_is_kind, d_is_dated, d_stands_first, d_is_unbroken, d_longer, d_fitting, d_saying_in, d_check_saying, d_is_so, d_those_so, d_always, d_same_saying, d_follows_so, d__law_hand, d__law_draw, d__law_some, d__law_is, d__law_shuffled, d__law_spec, d__law_can_go, d__law_fitting, d__law_case, d__law_saying, d__law_so, d__law_turned, d_law, d_Book___init__]
structure Al (K : PySem.W.Frag) (mg : Str → Option Value) : Prop where
  says : He.SaysD fa fn K
  hp : ∃ h : Heap, K.In h ∧ h.Ns mainGlobals mg
section
variable {K : PySem.W.Frag} {mg : Str → Option Value}
theorem Al.g_is_integer (A : Al K mg) : mg "is_integer" = some (.ref (He.ga K "is_integer")) := let ⟨_, X, G⟩ := A.hp; He.glo_ok X G (A.says.fact 0 (f := .glo "is_integer") rfl)
theorem Al.g_is_within (A : Al K mg) : mg "is_within" = some (.ref (He.ga K "is_within")) := let ⟨_, X, G⟩ := A.hp; He.glo_ok X G (A.says.fact 1 (f := .glo "is_within") rfl)
theorem Al.g_is_tuple (A : Al K mg) : mg "is_tuple" = some (.ref (He.ga K "is_tuple")) := let ⟨_, X, G⟩ := A.hp; He.glo_ok X G (A.says.fact 2 (f := .glo "is_tuple") rfl)
theorem Al.g_is_row (A : Al K mg) : mg "is_row" = some (.ref (He.ga K "is_row")) := let ⟨_, X, G⟩ := A.hp; He.glo_ok X G (A.says.fact 3 (f := .glo "is_row") rfl)
theorem Al.g_is_lot (A : Al K mg) : mg "is_lot" = some (.ref (He.ga K "is_lot")) := let ⟨_, X, G⟩ := A.hp; He.glo_ok X G (A.says.fact 4 (f := .glo "is_lot") rfl)
theorem Al.g_is_pair (A : Al K mg) : mg "is_pair" = some (.ref (He.ga K "is_pair")) := let ⟨_, X, G⟩ := A.hp; He.glo_ok X G (A.says.fact 5 (f := .glo "is_pair") rfl)
theorem Al.g_are_overs (A : Al K mg) : mg "are_overs" = some (.ref (He.ga K "are_overs")) := let ⟨_, X, G⟩ := A.hp; He.glo_ok X G (A.says.fact 6 (f := .glo "are_overs") rfl)
theorem Al.g_is_bound (A : Al K mg) : mg "is_bound" = some (.ref (He.ga K "is_bound")) := let ⟨_, X, G⟩ := A.hp; He.glo_ok X G (A.says.fact 7 (f := .glo "is_bound") rfl)
theorem Al.g_is_date (A : Al K mg) : mg "is_date" = some (.ref (He.ga K "is_date")) := let ⟨_, X, G⟩ := A.hp; He.glo_ok X G (A.says.fact 8 (f := .glo "is_date") rfl)
theorem Al.g_is_kind (A : Al K mg) : mg "is_kind" = some (.ref (He.ga K "is_kind")) := let ⟨_, X, G⟩ := A.hp; He.glo_ok X G (A.says.fact 9 (f := .glo "is_kind") rfl)
theorem Al.g_is_dated (A : Al K mg) : mg "is_dated" = some (.ref (He.ga K "is_dated")) := let ⟨_, X, G⟩ := A.hp; He.glo_ok X G (A.says.fact 10 (f := .glo "is_dated") rfl)
theorem Al.g_stands_first (A : Al K mg) : mg "stands_first" = some (.ref (He.ga K "stands_first")) := let ⟨_, X, G⟩ := A.hp; He.glo_ok X G (A.says.fact 11 (f := .glo "stands_first") rfl)
theorem Al.g_is_unbroken (A : Al K mg) : mg "is_unbroken" = some (.ref (He.ga K "is_unbroken")) := let ⟨_, X, G⟩ := A.hp; He.glo_ok X G (A.says.fact 12 (f := .glo "is_unbroken") rfl)
theorem Al.g_longer (A : Al K mg) : mg "longer" = some (.ref (He.ga K "longer")) := let ⟨_, X, G⟩ := A.hp; He.glo_ok X G (A.says.fact 13 (f := .glo "longer") rfl)
theorem Al.g_fitting (A : Al K mg) : mg "fitting" = some (.ref (He.ga K "fitting")) := let ⟨_, X, G⟩ := A.hp; He.glo_ok X G (A.says.fact 14 (f := .glo "fitting") rfl)
theorem Al.g_saying_in (A : Al K mg) : mg "saying_in" = some (.ref (He.ga K "saying_in")) := let ⟨_, X, G⟩ := A.hp; He.glo_ok X G (A.says.fact 15 (f := .glo "saying_in") rfl)
theorem Al.g_check_saying (A : Al K mg) : mg "check_saying" = some (.ref (He.ga K "check_saying")) := let ⟨_, X, G⟩ := A.hp; He.glo_ok X G (A.says.fact 16 (f := .glo "check_saying") rfl)
theorem Al.g_is_so (A : Al K mg) : mg "is_so" = some (.ref (He.ga K "is_so")) := let ⟨_, X, G⟩ := A.hp; He.glo_ok X G (A.says.fact 17 (f := .glo "is_so") rfl)
theorem Al.g_those_so (A : Al K mg) : mg "those_so" = some (.ref (He.ga K "those_so")) := let ⟨_, X, G⟩ := A.hp; He.glo_ok X G (A.says.fact 18 (f := .glo "those_so") rfl)
theorem Al.g_always (A : Al K mg) : mg "always" = some (.ref (He.ga K "always")) := let ⟨_, X, G⟩ := A.hp; He.glo_ok X G (A.says.fact 19 (f := .glo "always") rfl)
theorem Al.g_same_saying (A : Al K mg) : mg "same_saying" = some (.ref (He.ga K "same_saying")) := let ⟨_, X, G⟩ := A.hp; He.glo_ok X G (A.says.fact 20 (f := .glo "same_saying") rfl)
theorem Al.g_follows_so (A : Al K mg) : mg "follows_so" = some (.ref (He.ga K "follows_so")) := let ⟨_, X, G⟩ := A.hp; He.glo_ok X G (A.says.fact 21 (f := .glo "follows_so") rfl)
theorem Al.g__law_hand (A : Al K mg) : mg "_law_hand" = some (.ref (He.ga K "_law_hand")) := let ⟨_, X, G⟩ := A.hp; He.glo_ok X G (A.says.fact 22 (f := .glo "_law_hand") rfl)
theorem Al.g__law_draw (A : Al K mg) : mg "_law_draw" = some (.ref (He.ga K "_law_draw")) := let ⟨_, X, G⟩ := A.hp; He.glo_ok X G (A.says.fact 23 (f := .glo "_law_draw") rfl)
theorem Al.g__law_some (A : Al K mg) : mg "_law_some" = some (.ref (He.ga K "_law_some")) := let ⟨_, X, G⟩ := A.hp; He.glo_ok X G (A.says.fact 24 (f := .glo "_law_some") rfl)
theorem Al.g__law_is (A : Al K mg) : mg "_law_is" = some (.ref (He.ga K "_law_is")) := let ⟨_, X, G⟩ := A.hp; He.glo_ok X G (A.says.fact 25 (f := .glo "_law_is") rfl)
theorem Al.g__law_shuffled (A : Al K mg) : mg "_law_shuffled" = some (.ref (He.ga K "_law_shuffled")) := let ⟨_, X, G⟩ := A.hp; He.glo_ok X G (A.says.fact 26 (f := .glo "_law_shuffled") rfl)
theorem Al.g__law_spec (A : Al K mg) : mg "_law_spec" = some (.ref (He.ga K "_law_spec")) := let ⟨_, X, G⟩ := A.hp; He.glo_ok X G (A.says.fact 27 (f := .glo "_law_spec") rfl)
theorem Al.g__law_can_go (A : Al K mg) : mg "_law_can_go" = some (.ref (He.ga K "_law_can_go")) := let ⟨_, X, G⟩ := A.hp; He.glo_ok X G (A.says.fact 28 (f := .glo "_law_can_go") rfl)
theorem Al.g__law_fitting (A : Al K mg) : mg "_law_fitting" = some (.ref (He.ga K "_law_fitting")) := let ⟨_, X, G⟩ := A.hp; He.glo_ok X G (A.says.fact 29 (f := .glo "_law_fitting") rfl)
theorem Al.g__law_case (A : Al K mg) : mg "_law_case" = some (.ref (He.ga K "_law_case")) := let ⟨_, X, G⟩ := A.hp; He.glo_ok X G (A.says.fact 30 (f := .glo "_law_case") rfl)
theorem Al.g__law_saying (A : Al K mg) : mg "_law_saying" = some (.ref (He.ga K "_law_saying")) := let ⟨_, X, G⟩ := A.hp; He.glo_ok X G (A.says.fact 31 (f := .glo "_law_saying") rfl)
theorem Al.g__law_so (A : Al K mg) : mg "_law_so" = some (.ref (He.ga K "_law_so")) := let ⟨_, X, G⟩ := A.hp; He.glo_ok X G (A.says.fact 32 (f := .glo "_law_so") rfl)
theorem Al.g__law_turned (A : Al K mg) : mg "_law_turned" = some (.ref (He.ga K "_law_turned")) := let ⟨_, X, G⟩ := A.hp; He.glo_ok X G (A.says.fact 33 (f := .glo "_law_turned") rfl)
theorem Al.g_law (A : Al K mg) : mg "law" = some (.ref (He.ga K "law")) := let ⟨_, X, G⟩ := A.hp; He.glo_ok X G (A.says.fact 34 (f := .glo "law") rfl)
theorem Al.g_Book (A : Al K mg) : mg "Book" = some (.ref (He.ga K "Book")) := let ⟨_, X, G⟩ := A.hp; He.glo_ok X G (A.says.fact 35 (f := .glo "Book") rfl)
theorem Al.c_MOST_LAYERS (A : Al K mg) : ∃ t, mg "MOST_LAYERS" = some (.int 16 t) := let ⟨_, X, G⟩ := A.hp; He.int_ok X G (A.says.fact 36 (f := .int "MOST_LAYERS" 16) rfl)
theorem Al.c_MOST_KINDS (A : Al K mg) : ∃ t, mg "MOST_KINDS" = some (.int 16 t) := let ⟨_, X, G⟩ := A.hp; He.int_ok X G (A.says.fact 37 (f := .int "MOST_KINDS" 16) rfl)
theorem Al.c_FARTHEST (A : Al K mg) : ∃ t, mg "FARTHEST" = some (.int 100000 t) := let ⟨_, X, G⟩ := A.hp; He.int_ok X G (A.says.fact 38 (f := .int "FARTHEST" 100000) rfl)
theorem Al.c_MOST_ORDERS (A : Al K mg) : ∃ t, mg "MOST_ORDERS" = some (.int 5040 t) := let ⟨_, X, G⟩ := A.hp; He.int_ok X G (A.says.fact 39 (f := .int "MOST_ORDERS" 5040) rfl)
theorem Al.c_DEEPEST (A : Al K mg) : ∃ t, mg "DEEPEST" = some (.int 6 t) := let ⟨_, X, G⟩ := A.hp; He.int_ok X G (A.says.fact 40 (f := .int "DEEPEST" 6) rfl)
theorem Al.c_MOST_SAYINGS (A : Al K mg) : ∃ t, mg "MOST_SAYINGS" = some (.int 6 t) := let ⟨_, X, G⟩ := A.hp; He.int_ok X G (A.says.fact 41 (f := .int "MOST_SAYINGS" 6) rfl)
theorem Al.b_abs (A : Al K mg) : mg "abs" = none := let ⟨_, X, G⟩ := A.hp; He.free_ok X G (A.says.fact 42 (f := .free "abs") rfl)
theorem Al.b_all (A : Al K mg) : mg "all" = none := let ⟨_, X, G⟩ := A.hp; He.free_ok X G (A.says.fact 43 (f := .free "all") rfl)
theorem Al.b_any (A : Al K mg) : mg "any" = none := let ⟨_, X, G⟩ := A.hp; He.free_ok X G (A.says.fact 44 (f := .free "any") rfl)
theorem Al.b_bool (A : Al K mg) : mg "bool" = none := let ⟨_, X, G⟩ := A.hp; He.free_ok X G (A.says.fact 45 (f := .free "bool") rfl)
theorem Al.b_enumerate (A : Al K mg) : mg "enumerate" = none := let ⟨_, X, G⟩ := A.hp; He.free_ok X G (A.says.fact 46 (f := .free "enumerate") rfl)
theorem Al.b_int (A : Al K mg) : mg "int" = none := let ⟨_, X, G⟩ := A.hp; He.free_ok X G (A.says.fact 47 (f := .free "int") rfl)
theorem Al.b_isinstance (A : Al K mg) : mg "isinstance" = none := let ⟨_, X, G⟩ := A.hp; He.free_ok X G (A.says.fact 48 (f := .free "isinstance") rfl)
theorem Al.b_len (A : Al K mg) : mg "len" = none := let ⟨_, X, G⟩ := A.hp; He.free_ok X G (A.says.fact 49 (f := .free "len") rfl)
theorem Al.b_list (A : Al K mg) : mg "list" = none := let ⟨_, X, G⟩ := A.hp; He.free_ok X G (A.says.fact 50 (f := .free "list") rfl)
theorem Al.b_range (A : Al K mg) : mg "range" = none := let ⟨_, X, G⟩ := A.hp; He.free_ok X G (A.says.fact 51 (f := .free "range") rfl)
theorem Al.b_repr (A : Al K mg) : mg "repr" = none := let ⟨_, X, G⟩ := A.hp; He.free_ok X G (A.says.fact 52 (f := .free "repr") rfl)
theorem Al.b_sorted (A : Al K mg) : mg "sorted" = none := let ⟨_, X, G⟩ := A.hp; He.free_ok X G (A.says.fact 53 (f := .free "sorted") rfl)
theorem Al.b_str (A : Al K mg) : mg "str" = none := let ⟨_, X, G⟩ := A.hp; He.free_ok X G (A.says.fact 54 (f := .free "str") rfl)
theorem Al.b_tuple (A : Al K mg) : mg "tuple" = none := let ⟨_, X, G⟩ := A.hp; He.free_ok X G (A.says.fact 55 (f := .free "tuple") rfl)
theorem Al.b_zip (A : Al K mg) : mg "zip" = none := let ⟨_, X, G⟩ := A.hp; He.free_ok X G (A.says.fact 56 (f := .free "zip") rfl)
theorem Al.cls_Book (A : Al K mg) : Cls K (He.ga K "Book") := He.cls_ok (A.says.fact 57 (f := .cls "Book") rfl)
theorem Al.mk_Book (A : Al K mg) : Mk K (He.ga K "Book") (He.ma K (He.ga K "Book") "__init__") := He.mkr_ok (A.says.fact 58 (f := .mkr "Book") rfl)
theorem Al.na_Book_looked (A : Al K mg) : NoAttr K (He.ga K "Book") "looked" := He.noat_ok (A.says.fact 59 (f := .noat "Book" "looked") rfl)
theorem Al.na_Book_count (A : Al K mg) : NoAttr K (He.ga K "Book") "count" := He.noat_ok (A.says.fact 60 (f := .noat "Book" "count") rfl)
theorem Al.na_Book_overs (A : Al K mg) : NoAttr K (He.ga K "Book") "overs" := He.noat_ok (A.says.fact 61 (f := .noat "Book" "overs") rfl)
theorem Al.na_Book_dates (A : Al K mg) : NoAttr K (He.ga K "Book") "dates" := He.noat_ok (A.says.fact 62 (f := .noat "Book" "dates") rfl)
theorem Al.na_Book_kinds (A : Al K mg) : NoAttr K (He.ga K "Book") "kinds" := He.noat_ok (A.says.fact 63 (f := .noat "Book" "kinds") rfl)
theorem fu_is_integer (A : Al K mg) : ∃ f fd, FunD K "is_integer" "is_integer" (defArgs s_is_integer) (defBody s_is_integer) (defScope s_is_integer) [] [] f fd ∧ mg "is_integer" = some (.ref f) ∧ Binds K fd ["thing"] [] := by
  obtain ⟨fd, F⟩ := A.says.def_ 0 (d := d_is_integer) rfl
  exact ⟨_, fd, F, A.g_is_integer, FunD.bindsN F fun _ _ _ _ _ _ us hl => match us, hl with | [_], _ => rfl⟩
theorem fu_is_within (A : Al K mg) : ∃ f fd, FunD K "is_within" "is_within" (defArgs s_is_within) (defBody s_is_within) (defScope s_is_within) [] [] f fd ∧ mg "is_within" = some (.ref f) ∧ Binds K fd ["thing", "low", "high"] [] := by
  obtain ⟨fd, F⟩ := A.says.def_ 1 (d := d_is_within) rfl
  exact ⟨_, fd, F, A.g_is_within, FunD.bindsN F fun _ _ _ _ _ _ us hl => match us, hl with | [_, _, _], _ => rfl⟩
theorem fu_is_tuple (A : Al K mg) : ∃ f fd, FunD K "is_tuple" "is_tuple" (defArgs s_is_tuple) (defBody s_is_tuple) (defScope s_is_tuple) [] [] f fd ∧ mg "is_tuple" = some (.ref f) ∧ Binds K fd ["thing", "least", "most"] [] := by
  obtain ⟨fd, F⟩ := A.says.def_ 2 (d := d_is_tuple) rfl
  exact ⟨_, fd, F, A.g_is_tuple, FunD.bindsN F fun _ _ _ _ _ _ us hl => match us, hl with | [_, _, _], _ => rfl⟩
theorem fu_is_row (A : Al K mg) : ∃ f fd, FunD K "is_row" "is_row" (defArgs s_is_row) (defBody s_is_row) (defScope s_is_row) [] [] f fd ∧ mg "is_row" = some (.ref f) ∧ Binds K fd ["thing", "least", "most"] [] := by
  obtain ⟨fd, F⟩ := A.says.def_ 3 (d := d_is_row) rfl
  exact ⟨_, fd, F, A.g_is_row, FunD.bindsN F fun _ _ _ _ _ _ us hl => match us, hl with | [_, _, _], _ => rfl⟩
theorem fu_is_lot (A : Al K mg) : ∃ f fd, FunD K "is_lot" "is_lot" (defArgs s_is_lot) (defBody s_is_lot) (defScope s_is_lot) [] [] f fd ∧ mg "is_lot" = some (.ref f) ∧ Binds K fd ["thing", "many"] [] := by
  obtain ⟨fd, F⟩ := A.says.def_ 4 (d := d_is_lot) rfl
  exact ⟨_, fd, F, A.g_is_lot, FunD.bindsN F fun _ _ _ _ _ _ us hl => match us, hl with | [_, _], _ => rfl⟩
theorem fu_is_pair (A : Al K mg) : ∃ f fd, FunD K "is_pair" "is_pair" (defArgs s_is_pair) (defBody s_is_pair) (defScope s_is_pair) [] [] f fd ∧ mg "is_pair" = some (.ref f) ∧ Binds K fd ["count", "thing"] [] := by
  obtain ⟨fd, F⟩ := A.says.def_ 5 (d := d_is_pair) rfl
  exact ⟨_, fd, F, A.g_is_pair, FunD.bindsN F fun _ _ _ _ _ _ us hl => match us, hl with | [_, _], _ => rfl⟩
theorem fu_are_overs (A : Al K mg) : ∃ f fd, FunD K "are_overs" "are_overs" (defArgs s_are_overs) (defBody s_are_overs) (defScope s_are_overs) [] [] f fd ∧ mg "are_overs" = some (.ref f) ∧ Binds K fd ["count", "thing"] [] := by
  obtain ⟨fd, F⟩ := A.says.def_ 6 (d := d_are_overs) rfl
  exact ⟨_, fd, F, A.g_are_overs, FunD.bindsN F fun _ _ _ _ _ _ us hl => match us, hl with | [_, _], _ => rfl⟩
theorem fu_is_bound (A : Al K mg) : ∃ f fd, FunD K "is_bound" "is_bound" (defArgs s_is_bound) (defBody s_is_bound) (defScope s_is_bound) [] [] f fd ∧ mg "is_bound" = some (.ref f) ∧ Binds K fd ["thing"] [] := by
  obtain ⟨fd, F⟩ := A.says.def_ 7 (d := d_is_bound) rfl
  exact ⟨_, fd, F, A.g_is_bound, FunD.bindsN F fun _ _ _ _ _ _ us hl => match us, hl with | [_], _ => rfl⟩
theorem fu_is_date (A : Al K mg) : ∃ f fd, FunD K "is_date" "is_date" (defArgs s_is_date) (defBody s_is_date) (defScope s_is_date) [] [] f fd ∧ mg "is_date" = some (.ref f) ∧ Binds K fd ["thing"] [] := by
  obtain ⟨fd, F⟩ := A.says.def_ 8 (d := d_is_date) rfl
  exact ⟨_, fd, F, A.g_is_date, FunD.bindsN F fun _ _ _ _ _ _ us hl => match us, hl with | [_], _ => rfl⟩
theorem fu_is_kind (A : Al K mg) : ∃ f fd, FunD K "is_kind" "is_kind" (defArgs s_is_kind) (defBody s_is_kind) (defScope s_is_kind) [] [] f fd ∧ mg "is_kind" = some (.ref f) ∧ Binds K fd ["count", "thing"] [] := by
  obtain ⟨fd, F⟩ := A.says.def_ 9 (d := d_is_kind) rfl
  exact ⟨_, fd, F, A.g_is_kind, FunD.bindsN F fun _ _ _ _ _ _ us hl => match us, hl with | [_, _], _ => rfl⟩
theorem fu_is_dated (A : Al K mg) : ∃ f fd, FunD K "is_dated" "is_dated" (defArgs s_is_dated) (defBody s_is_dated) (defScope s_is_dated) [] [] f fd ∧ mg "is_dated" = some (.ref f) ∧ Binds K fd ["book", "a", "b"] [] := by
  obtain ⟨fd, F⟩ := A.says.def_ 10 (d := d_is_dated) rfl
  exact ⟨_, fd, F, A.g_is_dated, FunD.bindsN F fun _ _ _ _ _ _ us hl => match us, hl with | [_, _, _], _ => rfl⟩
theorem fu_stands_first (A : Al K mg) : ∃ f fd, FunD K "stands_first" "stands_first" (defArgs s_stands_first) (defBody s_stands_first) (defScope s_stands_first) [] [] f fd ∧ mg "stands_first" = some (.ref f) ∧ Binds K fd ["book", "placed", "layer"] [] := by
  obtain ⟨fd, F⟩ := A.says.def_ 11 (d := d_stands_first) rfl
  exact ⟨_, fd, F, A.g_stands_first, FunD.bindsN F fun _ _ _ _ _ _ us hl => match us, hl with | [_, _, _], _ => rfl⟩
theorem fu_is_unbroken (A : Al K mg) : ∃ f fd, FunD K "is_unbroken" "is_unbroken" (defArgs s_is_unbroken) (defBody s_is_unbroken) (defScope s_is_unbroken) [] [] f fd ∧ mg "is_unbroken" = some (.ref f) ∧ Binds K fd ["kind", "placed", "layer"] [] := by
  obtain ⟨fd, F⟩ := A.says.def_ 12 (d := d_is_unbroken) rfl
  exact ⟨_, fd, F, A.g_is_unbroken, FunD.bindsN F fun _ _ _ _ _ _ us hl => match us, hl with | [_, _, _], _ => rfl⟩
theorem fu_longer (A : Al K mg) : ∃ f fd, FunD K "longer" "longer" (defArgs s_longer) (defBody s_longer) (defScope s_longer) [] [] f fd ∧ mg "longer" = some (.ref f) ∧ Binds K fd ["book", "placed"] [] := by
  obtain ⟨fd, F⟩ := A.says.def_ 13 (d := d_longer) rfl
  exact ⟨_, fd, F, A.g_longer, FunD.bindsN F fun _ _ _ _ _ _ us hl => match us, hl with | [_, _], _ => rfl⟩
theorem fu_fitting (A : Al K mg) : ∃ f fd, FunD K "fitting" "fitting" (defArgs s_fitting) (defBody s_fitting) (defScope s_fitting) [] [] f fd ∧ mg "fitting" = some (.ref f) ∧ Binds K fd ["book"] [] := by
  obtain ⟨fd, F⟩ := A.says.def_ 14 (d := d_fitting) rfl
  exact ⟨_, fd, F, A.g_fitting, FunD.bindsN F fun _ _ _ _ _ _ us hl => match us, hl with | [_], _ => rfl⟩
theorem fu_saying_in (A : Al K mg) : ∃ f fd, FunD K "saying_in" "saying_in" (defArgs s_saying_in) (defBody s_saying_in) (defScope s_saying_in) [] [] f fd ∧ mg "saying_in" = some (.ref f) ∧ Binds K fd ["count", "thing", "deep"] [] := by
  obtain ⟨fd, F⟩ := A.says.def_ 15 (d := d_saying_in) rfl
  exact ⟨_, fd, F, A.g_saying_in, FunD.bindsN F fun _ _ _ _ _ _ us hl => match us, hl with | [_, _, _], _ => rfl⟩
theorem fu_check_saying (A : Al K mg) : ∃ f fd, FunD K "check_saying" "check_saying" (defArgs s_check_saying) (defBody s_check_saying) (defScope s_check_saying) [] [] f fd ∧ mg "check_saying" = some (.ref f) ∧ Binds K fd ["book", "saying"] [] := by
  obtain ⟨fd, F⟩ := A.says.def_ 16 (d := d_check_saying) rfl
  exact ⟨_, fd, F, A.g_check_saying, FunD.bindsN F fun _ _ _ _ _ _ us hl => match us, hl with | [_, _], _ => rfl⟩
theorem fu_is_so (A : Al K mg) : ∃ f fd, FunD K "is_so" "is_so" (defArgs s_is_so) (defBody s_is_so) (defScope s_is_so) [] [] f fd ∧ mg "is_so" = some (.ref f) ∧ Binds K fd ["saying", "order"] [] := by
  obtain ⟨fd, F⟩ := A.says.def_ 17 (d := d_is_so) rfl
  exact ⟨_, fd, F, A.g_is_so, FunD.bindsN F fun _ _ _ _ _ _ us hl => match us, hl with | [_, _], _ => rfl⟩
theorem fu_those_so (A : Al K mg) : ∃ f fd, FunD K "those_so" "those_so" (defArgs s_those_so) (defBody s_those_so) (defScope s_those_so) [] [] f fd ∧ mg "those_so" = some (.ref f) ∧ Binds K fd ["book", "saying"] [] := by
  obtain ⟨fd, F⟩ := A.says.def_ 18 (d := d_those_so) rfl
  exact ⟨_, fd, F, A.g_those_so, FunD.bindsN F fun _ _ _ _ _ _ us hl => match us, hl with | [_, _], _ => rfl⟩
theorem fu_always (A : Al K mg) : ∃ f fd, FunD K "always" "always" (defArgs s_always) (defBody s_always) (defScope s_always) [] [] f fd ∧ mg "always" = some (.ref f) ∧ Binds K fd ["book", "saying"] [] := by
  obtain ⟨fd, F⟩ := A.says.def_ 19 (d := d_always) rfl
  exact ⟨_, fd, F, A.g_always, FunD.bindsN F fun _ _ _ _ _ _ us hl => match us, hl with | [_, _], _ => rfl⟩
theorem fu_same_saying (A : Al K mg) : ∃ f fd, FunD K "same_saying" "same_saying" (defArgs s_same_saying) (defBody s_same_saying) (defScope s_same_saying) [] [] f fd ∧ mg "same_saying" = some (.ref f) ∧ Binds K fd ["book", "one", "other"] [] := by
  obtain ⟨fd, F⟩ := A.says.def_ 20 (d := d_same_saying) rfl
  exact ⟨_, fd, F, A.g_same_saying, FunD.bindsN F fun _ _ _ _ _ _ us hl => match us, hl with | [_, _, _], _ => rfl⟩
theorem fu_follows_so (A : Al K mg) : ∃ f fd, FunD K "follows_so" "follows_so" (defArgs s_follows_so) (defBody s_follows_so) (defScope s_follows_so) [] [] f fd ∧ mg "follows_so" = some (.ref f) ∧ Binds K fd ["book", "some", "saying"] [] := by
  obtain ⟨fd, F⟩ := A.says.def_ 21 (d := d_follows_so) rfl
  exact ⟨_, fd, F, A.g_follows_so, FunD.bindsN F fun _ _ _ _ _ _ us hl => match us, hl with | [_, _, _], _ => rfl⟩
theorem fu__law_hand (A : Al K mg) : ∃ f fd, FunD K "_law_hand" "_law_hand" (defArgs s__law_hand) (defBody s__law_hand) (defScope s__law_hand) [] [] f fd ∧ mg "_law_hand" = some (.ref f) ∧ Binds K fd ["script"] [] := by
  obtain ⟨fd, F⟩ := A.says.def_ 22 (d := d__law_hand) rfl
  exact ⟨_, fd, F, A.g__law_hand, FunD.bindsN F fun _ _ _ _ _ _ us hl => match us, hl with | [_], _ => rfl⟩
theorem fu__law_draw (A : Al K mg) : ∃ f fd, FunD K "_law_draw" "_law_draw" (defArgs s__law_draw) (defBody s__law_draw) (defScope s__law_draw) [] [] f fd ∧ mg "_law_draw" = some (.ref f) ∧ Binds K fd ["hand", "limit"] [] := by
  obtain ⟨fd, F⟩ := A.says.def_ 23 (d := d__law_draw) rfl
  exact ⟨_, fd, F, A.g__law_draw, FunD.bindsN F fun _ _ _ _ _ _ us hl => match us, hl with | [_, _], _ => rfl⟩
theorem fu__law_some (A : Al K mg) : ∃ f fd, FunD K "_law_some" "_law_some" (defArgs s__law_some) (defBody s__law_some) (defScope s__law_some) [] [] f fd ∧ mg "_law_some" = some (.ref f) ∧ Binds K fd ["hand", "items"] [] := by
  obtain ⟨fd, F⟩ := A.says.def_ 24 (d := d__law_some) rfl
  exact ⟨_, fd, F, A.g__law_some, FunD.bindsN F fun _ _ _ _ _ _ us hl => match us, hl with | [_, _], _ => rfl⟩
theorem fu__law_is (A : Al K mg) : ∃ f fd, FunD K "_law_is" "_law_is" (defArgs s__law_is) (defBody s__law_is) (defScope s__law_is) [] [] f fd ∧ mg "_law_is" = some (.ref f) ∧ Binds K fd ["thing", "due"] [] := by
  obtain ⟨fd, F⟩ := A.says.def_ 25 (d := d__law_is) rfl
  exact ⟨_, fd, F, A.g__law_is, FunD.bindsN F fun _ _ _ _ _ _ us hl => match us, hl with | [_, _], _ => rfl⟩
theorem fu__law_shuffled (A : Al K mg) : ∃ f fd, FunD K "_law_shuffled" "_law_shuffled" (defArgs s__law_shuffled) (defBody s__law_shuffled) (defScope s__law_shuffled) [] [] f fd ∧ mg "_law_shuffled" = some (.ref f) ∧ Binds K fd ["hand", "count"] [] := by
  obtain ⟨fd, F⟩ := A.says.def_ 26 (d := d__law_shuffled) rfl
  exact ⟨_, fd, F, A.g__law_shuffled, FunD.bindsN F fun _ _ _ _ _ _ us hl => match us, hl with | [_, _], _ => rfl⟩
theorem fu__law_spec (A : Al K mg) : ∃ f fd, FunD K "_law_spec" "_law_spec" (defArgs s__law_spec) (defBody s__law_spec) (defScope s__law_spec) [] [] f fd ∧ mg "_law_spec" = some (.ref f) ∧ Binds K fd ["hand", "count"] [] := by
  obtain ⟨fd, F⟩ := A.says.def_ 27 (d := d__law_spec) rfl
  exact ⟨_, fd, F, A.g__law_spec, FunD.bindsN F fun _ _ _ _ _ _ us hl => match us, hl with | [_, _], _ => rfl⟩
theorem fu__law_can_go (A : Al K mg) : ∃ f fd, FunD K "_law_can_go" "_law_can_go" (defArgs s__law_can_go) (defBody s__law_can_go) (defScope s__law_can_go) [] [] f fd ∧ mg "_law_can_go" = some (.ref f) ∧ Binds K fd ["spec", "done", "layer"] [] := by
  obtain ⟨fd, F⟩ := A.says.def_ 28 (d := d__law_can_go) rfl
  exact ⟨_, fd, F, A.g__law_can_go, FunD.bindsN F fun _ _ _ _ _ _ us hl => match us, hl with | [_, _, _], _ => rfl⟩
theorem fu__law_fitting (A : Al K mg) : ∃ f fd, FunD K "_law_fitting" "_law_fitting" (defArgs s__law_fitting) (defBody s__law_fitting) (defScope s__law_fitting) [] [] f fd ∧ mg "_law_fitting" = some (.ref f) ∧ Binds K fd ["spec"] [] := by
  obtain ⟨fd, F⟩ := A.says.def_ 29 (d := d__law_fitting) rfl
  exact ⟨_, fd, F, A.g__law_fitting, FunD.bindsN F fun _ _ _ _ _ _ us hl => match us, hl with | [_], _ => rfl⟩
theorem fu__law_case (A : Al K mg) : ∃ f fd, FunD K "_law_case" "_law_case" (defArgs s__law_case) (defBody s__law_case) (defScope s__law_case) [] [] f fd ∧ mg "_law_case" = some (.ref f) ∧ Binds K fd ["hand", "least", "most"] [] := by
  obtain ⟨fd, F⟩ := A.says.def_ 30 (d := d__law_case) rfl
  exact ⟨_, fd, F, A.g__law_case, FunD.bindsN F fun _ _ _ _ _ _ us hl => match us, hl with | [_, _, _], _ => rfl⟩
theorem fu__law_saying (A : Al K mg) : ∃ f fd, FunD K "_law_saying" "_law_saying" (defArgs s__law_saying) (defBody s__law_saying) (defScope s__law_saying) [] [] f fd ∧ mg "_law_saying" = some (.ref f) ∧ Binds K fd ["hand", "count", "deep"] [] := by
  obtain ⟨fd, F⟩ := A.says.def_ 31 (d := d__law_saying) rfl
  exact ⟨_, fd, F, A.g__law_saying, FunD.bindsN F fun _ _ _ _ _ _ us hl => match us, hl with | [_, _, _], _ => rfl⟩
theorem fu__law_so (A : Al K mg) : ∃ f fd, FunD K "_law_so" "_law_so" (defArgs s__law_so) (defBody s__law_so) (defScope s__law_so) [] [] f fd ∧ mg "_law_so" = some (.ref f) ∧ Binds K fd ["saying", "order"] [] := by
  obtain ⟨fd, F⟩ := A.says.def_ 32 (d := d__law_so) rfl
  exact ⟨_, fd, F, A.g__law_so, FunD.bindsN F fun _ _ _ _ _ _ us hl => match us, hl with | [_, _], _ => rfl⟩
theorem fu__law_turned (A : Al K mg) : ∃ f fd, FunD K "_law_turned" "_law_turned" (defArgs s__law_turned) (defBody s__law_turned) (defScope s__law_turned) [] [] f fd ∧ mg "_law_turned" = some (.ref f) ∧ Binds K fd ["hand", "saying"] [] := by
  obtain ⟨fd, F⟩ := A.says.def_ 33 (d := d__law_turned) rfl
  exact ⟨_, fd, F, A.g__law_turned, FunD.bindsN F fun _ _ _ _ _ _ us hl => match us, hl with | [_, _], _ => rfl⟩
theorem fu_law (A : Al K mg) : ∃ f fd, FunD K "law" "law" (defArgs s_law) (defBody s_law) (defScope s_law) [] [] f fd ∧ mg "law" = some (.ref f) ∧ Binds K fd ["script"] [] := by
  obtain ⟨fd, F⟩ := A.says.def_ 34 (d := d_law) rfl
  exact ⟨_, fd, F, A.g_law, FunD.bindsN F fun _ _ _ _ _ _ us hl => match us, hl with | [_], _ => rfl⟩
theorem fu_Book___init__ (A : Al K mg) : ∃ fd, FunD K "__init__" "Book.__init__" (defArgs s_Book___init__) (defBody s_Book___init__) (defScope s_Book___init__) [] [] (He.ma K (He.ga K "Book") "__init__") fd ∧ Binds K fd ["self", "count", "overs", "dates", "kinds"] [] := by
  obtain ⟨fd, F⟩ := A.says.def_ 35 (d := d_Book___init__) rfl
  exact ⟨fd, F, FunD.bindsN F fun _ _ _ _ _ _ us hl => match us, hl with | [_, _, _, _, _], _ => rfl⟩
end
theorem so_0 : okD (.str "not") = true := okD_str (by decide +kernel)
theorem su_0 : pu (.str "not") = true := by simp only [pu]; decide +kernel
theorem se_0_1 : ((Str.ofString "not") = Str.ofString "and") = False := by simp; decide +kernel
theorem se_0_2 : ((Str.ofString "not") = Str.ofString "or") = False := by simp; decide +kernel
theorem se_0_3 : ((Str.ofString "not") = Str.ofString "at") = False := by simp; decide +kernel
theorem se_0_4 : ((Str.ofString "not") = Str.ofString "ahead") = False := by simp; decide +kernel
theorem se_0_5 : ((Str.ofString "not") = Str.ofString "next") = False := by simp; decide +kernel
theorem se_0_6 : ((Str.ofString "not") = Str.ofString "At") = False := by simp; decide +kernel
theorem se_0_7 : ((Str.ofString "not") = Str.ofString "0") = False := by simp; decide +kernel
theorem se_0_8 : ((Str.ofString "not") = Str.ofString "") = False := by simp; decide +kernel
theorem se_0_9 : ((Str.ofString "not") = Str.ofString "always") = False := by simp; decide +kernel
theorem se_0_10 : ((Str.ofString "not") = Str.ofString "never") = False := by simp; decide +kernel
theorem se_0_11 : ((Str.ofString "not") = Str.ofString "none") = False := by simp; decide +kernel
theorem se_0_12 : ((Str.ofString "not") = Str.ofString "some") = False := by simp; decide +kernel
theorem se_0_13 : ((Str.ofString "not") = Str.ofString "fitting") = False := by simp; decide +kernel
theorem so_1 : okD (.str "and") = true := okD_str (by decide +kernel)
theorem su_1 : pu (.str "and") = true := by simp only [pu]; decide +kernel
theorem se_1_0 : ((Str.ofString "and") = Str.ofString "not") = False := by simp; decide +kernel
theorem se_1_2 : ((Str.ofString "and") = Str.ofString "or") = False := by simp; decide +kernel
theorem se_1_3 : ((Str.ofString "and") = Str.ofString "at") = False := by simp; decide +kernel
theorem se_1_4 : ((Str.ofString "and") = Str.ofString "ahead") = False := by simp; decide +kernel
theorem se_1_5 : ((Str.ofString "and") = Str.ofString "next") = False := by simp; decide +kernel
theorem se_1_6 : ((Str.ofString "and") = Str.ofString "At") = False := by simp; decide +kernel
theorem se_1_7 : ((Str.ofString "and") = Str.ofString "0") = False := by simp; decide +kernel
theorem se_1_8 : ((Str.ofString "and") = Str.ofString "") = False := by simp; decide +kernel
theorem se_1_9 : ((Str.ofString "and") = Str.ofString "always") = False := by simp; decide +kernel
theorem se_1_10 : ((Str.ofString "and") = Str.ofString "never") = False := by simp; decide +kernel
theorem se_1_11 : ((Str.ofString "and") = Str.ofString "none") = False := by simp; decide +kernel
theorem se_1_12 : ((Str.ofString "and") = Str.ofString "some") = False := by simp; decide +kernel
theorem se_1_13 : ((Str.ofString "and") = Str.ofString "fitting") = False := by simp; decide +kernel
theorem so_2 : okD (.str "or") = true := okD_str (by decide +kernel)
theorem su_2 : pu (.str "or") = true := by simp only [pu]; decide +kernel
theorem se_2_0 : ((Str.ofString "or") = Str.ofString "not") = False := by simp; decide +kernel
theorem se_2_1 : ((Str.ofString "or") = Str.ofString "and") = False := by simp; decide +kernel
theorem se_2_3 : ((Str.ofString "or") = Str.ofString "at") = False := by simp; decide +kernel
theorem se_2_4 : ((Str.ofString "or") = Str.ofString "ahead") = False := by simp; decide +kernel
theorem se_2_5 : ((Str.ofString "or") = Str.ofString "next") = False := by simp; decide +kernel
theorem se_2_6 : ((Str.ofString "or") = Str.ofString "At") = False := by simp; decide +kernel
theorem se_2_7 : ((Str.ofString "or") = Str.ofString "0") = False := by simp; decide +kernel
theorem se_2_8 : ((Str.ofString "or") = Str.ofString "") = False := by simp; decide +kernel
theorem se_2_9 : ((Str.ofString "or") = Str.ofString "always") = False := by simp; decide +kernel
theorem se_2_10 : ((Str.ofString "or") = Str.ofString "never") = False := by simp; decide +kernel
theorem se_2_11 : ((Str.ofString "or") = Str.ofString "none") = False := by simp; decide +kernel
theorem se_2_12 : ((Str.ofString "or") = Str.ofString "some") = False := by simp; decide +kernel
theorem se_2_13 : ((Str.ofString "or") = Str.ofString "fitting") = False := by simp; decide +kernel
theorem so_3 : okD (.str "at") = true := okD_str (by decide +kernel)
theorem su_3 : pu (.str "at") = true := by simp only [pu]; decide +kernel
theorem se_3_0 : ((Str.ofString "at") = Str.ofString "not") = False := by simp; decide +kernel
theorem se_3_1 : ((Str.ofString "at") = Str.ofString "and") = False := by simp; decide +kernel
theorem se_3_2 : ((Str.ofString "at") = Str.ofString "or") = False := by simp; decide +kernel
theorem se_3_4 : ((Str.ofString "at") = Str.ofString "ahead") = False := by simp; decide +kernel
theorem se_3_5 : ((Str.ofString "at") = Str.ofString "next") = False := by simp; decide +kernel
theorem se_3_6 : ((Str.ofString "at") = Str.ofString "At") = False := by simp; decide +kernel
theorem se_3_7 : ((Str.ofString "at") = Str.ofString "0") = False := by simp; decide +kernel
theorem se_3_8 : ((Str.ofString "at") = Str.ofString "") = False := by simp; decide +kernel
theorem se_3_9 : ((Str.ofString "at") = Str.ofString "always") = False := by simp; decide +kernel
theorem se_3_10 : ((Str.ofString "at") = Str.ofString "never") = False := by simp; decide +kernel
theorem se_3_11 : ((Str.ofString "at") = Str.ofString "none") = False := by simp; decide +kernel
theorem se_3_12 : ((Str.ofString "at") = Str.ofString "some") = False := by simp; decide +kernel
theorem se_3_13 : ((Str.ofString "at") = Str.ofString "fitting") = False := by simp; decide +kernel
theorem so_4 : okD (.str "ahead") = true := okD_str (by decide +kernel)
theorem su_4 : pu (.str "ahead") = true := by simp only [pu]; decide +kernel
theorem se_4_0 : ((Str.ofString "ahead") = Str.ofString "not") = False := by simp; decide +kernel
theorem se_4_1 : ((Str.ofString "ahead") = Str.ofString "and") = False := by simp; decide +kernel
theorem se_4_2 : ((Str.ofString "ahead") = Str.ofString "or") = False := by simp; decide +kernel
theorem se_4_3 : ((Str.ofString "ahead") = Str.ofString "at") = False := by simp; decide +kernel
theorem se_4_5 : ((Str.ofString "ahead") = Str.ofString "next") = False := by simp; decide +kernel
theorem se_4_6 : ((Str.ofString "ahead") = Str.ofString "At") = False := by simp; decide +kernel
theorem se_4_7 : ((Str.ofString "ahead") = Str.ofString "0") = False := by simp; decide +kernel
theorem se_4_8 : ((Str.ofString "ahead") = Str.ofString "") = False := by simp; decide +kernel
theorem se_4_9 : ((Str.ofString "ahead") = Str.ofString "always") = False := by simp; decide +kernel
theorem se_4_10 : ((Str.ofString "ahead") = Str.ofString "never") = False := by simp; decide +kernel
theorem se_4_11 : ((Str.ofString "ahead") = Str.ofString "none") = False := by simp; decide +kernel
theorem se_4_12 : ((Str.ofString "ahead") = Str.ofString "some") = False := by simp; decide +kernel
theorem se_4_13 : ((Str.ofString "ahead") = Str.ofString "fitting") = False := by simp; decide +kernel
theorem so_5 : okD (.str "next") = true := okD_str (by decide +kernel)
theorem su_5 : pu (.str "next") = true := by simp only [pu]; decide +kernel
theorem se_5_0 : ((Str.ofString "next") = Str.ofString "not") = False := by simp; decide +kernel
theorem se_5_1 : ((Str.ofString "next") = Str.ofString "and") = False := by simp; decide +kernel
theorem se_5_2 : ((Str.ofString "next") = Str.ofString "or") = False := by simp; decide +kernel
theorem se_5_3 : ((Str.ofString "next") = Str.ofString "at") = False := by simp; decide +kernel
theorem se_5_4 : ((Str.ofString "next") = Str.ofString "ahead") = False := by simp; decide +kernel
theorem se_5_6 : ((Str.ofString "next") = Str.ofString "At") = False := by simp; decide +kernel
theorem se_5_7 : ((Str.ofString "next") = Str.ofString "0") = False := by simp; decide +kernel
theorem se_5_8 : ((Str.ofString "next") = Str.ofString "") = False := by simp; decide +kernel
theorem se_5_9 : ((Str.ofString "next") = Str.ofString "always") = False := by simp; decide +kernel
theorem se_5_10 : ((Str.ofString "next") = Str.ofString "never") = False := by simp; decide +kernel
theorem se_5_11 : ((Str.ofString "next") = Str.ofString "none") = False := by simp; decide +kernel
theorem se_5_12 : ((Str.ofString "next") = Str.ofString "some") = False := by simp; decide +kernel
theorem se_5_13 : ((Str.ofString "next") = Str.ofString "fitting") = False := by simp; decide +kernel
theorem so_6 : okD (.str "At") = true := okD_str (by decide +kernel)
theorem su_6 : pu (.str "At") = true := by simp only [pu]; decide +kernel
theorem se_6_0 : ((Str.ofString "At") = Str.ofString "not") = False := by simp; decide +kernel
theorem se_6_1 : ((Str.ofString "At") = Str.ofString "and") = False := by simp; decide +kernel
theorem se_6_2 : ((Str.ofString "At") = Str.ofString "or") = False := by simp; decide +kernel
theorem se_6_3 : ((Str.ofString "At") = Str.ofString "at") = False := by simp; decide +kernel
theorem se_6_4 : ((Str.ofString "At") = Str.ofString "ahead") = False := by simp; decide +kernel
theorem se_6_5 : ((Str.ofString "At") = Str.ofString "next") = False := by simp; decide +kernel
theorem se_6_7 : ((Str.ofString "At") = Str.ofString "0") = False := by simp; decide +kernel
theorem se_6_8 : ((Str.ofString "At") = Str.ofString "") = False := by simp; decide +kernel
theorem se_6_9 : ((Str.ofString "At") = Str.ofString "always") = False := by simp; decide +kernel
theorem se_6_10 : ((Str.ofString "At") = Str.ofString "never") = False := by simp; decide +kernel
theorem se_6_11 : ((Str.ofString "At") = Str.ofString "none") = False := by simp; decide +kernel
theorem se_6_12 : ((Str.ofString "At") = Str.ofString "some") = False := by simp; decide +kernel
theorem se_6_13 : ((Str.ofString "At") = Str.ofString "fitting") = False := by simp; decide +kernel
theorem so_7 : okD (.str "0") = true := okD_str (by decide +kernel)
theorem su_7 : pu (.str "0") = true := by simp only [pu]; decide +kernel
theorem se_7_0 : ((Str.ofString "0") = Str.ofString "not") = False := by simp; decide +kernel
theorem se_7_1 : ((Str.ofString "0") = Str.ofString "and") = False := by simp; decide +kernel
theorem se_7_2 : ((Str.ofString "0") = Str.ofString "or") = False := by simp; decide +kernel
theorem se_7_3 : ((Str.ofString "0") = Str.ofString "at") = False := by simp; decide +kernel
theorem se_7_4 : ((Str.ofString "0") = Str.ofString "ahead") = False := by simp; decide +kernel
theorem se_7_5 : ((Str.ofString "0") = Str.ofString "next") = False := by simp; decide +kernel
theorem se_7_6 : ((Str.ofString "0") = Str.ofString "At") = False := by simp; decide +kernel
theorem se_7_8 : ((Str.ofString "0") = Str.ofString "") = False := by simp; decide +kernel
theorem se_7_9 : ((Str.ofString "0") = Str.ofString "always") = False := by simp; decide +kernel
theorem se_7_10 : ((Str.ofString "0") = Str.ofString "never") = False := by simp; decide +kernel
theorem se_7_11 : ((Str.ofString "0") = Str.ofString "none") = False := by simp; decide +kernel
theorem se_7_12 : ((Str.ofString "0") = Str.ofString "some") = False := by simp; decide +kernel
theorem se_7_13 : ((Str.ofString "0") = Str.ofString "fitting") = False := by simp; decide +kernel
theorem so_8 : okD (.str "") = true := okD_str (by decide +kernel)
theorem su_8 : pu (.str "") = true := by simp only [pu]; decide +kernel
theorem se_8_0 : ((Str.ofString "") = Str.ofString "not") = False := by simp; decide +kernel
theorem se_8_1 : ((Str.ofString "") = Str.ofString "and") = False := by simp; decide +kernel
theorem se_8_2 : ((Str.ofString "") = Str.ofString "or") = False := by simp; decide +kernel
theorem se_8_3 : ((Str.ofString "") = Str.ofString "at") = False := by simp; decide +kernel
theorem se_8_4 : ((Str.ofString "") = Str.ofString "ahead") = False := by simp; decide +kernel
theorem se_8_5 : ((Str.ofString "") = Str.ofString "next") = False := by simp; decide +kernel
theorem se_8_6 : ((Str.ofString "") = Str.ofString "At") = False := by simp; decide +kernel
theorem se_8_7 : ((Str.ofString "") = Str.ofString "0") = False := by simp; decide +kernel
theorem se_8_9 : ((Str.ofString "") = Str.ofString "always") = False := by simp; decide +kernel
theorem se_8_10 : ((Str.ofString "") = Str.ofString "never") = False := by simp; decide +kernel
theorem se_8_11 : ((Str.ofString "") = Str.ofString "none") = False := by simp; decide +kernel
theorem se_8_12 : ((Str.ofString "") = Str.ofString "some") = False := by simp; decide +kernel
theorem se_8_13 : ((Str.ofString "") = Str.ofString "fitting") = False := by simp; decide +kernel
theorem so_9 : okD (.str "always") = true := okD_str (by decide +kernel)
theorem su_9 : pu (.str "always") = true := by simp only [pu]; decide +kernel
theorem se_9_0 : ((Str.ofString "always") = Str.ofString "not") = False := by simp; decide +kernel
theorem se_9_1 : ((Str.ofString "always") = Str.ofString "and") = False := by simp; decide +kernel
theorem se_9_2 : ((Str.ofString "always") = Str.ofString "or") = False := by simp; decide +kernel
theorem se_9_3 : ((Str.ofString "always") = Str.ofString "at") = False := by simp; decide +kernel
theorem se_9_4 : ((Str.ofString "always") = Str.ofString "ahead") = False := by simp; decide +kernel
theorem se_9_5 : ((Str.ofString "always") = Str.ofString "next") = False := by simp; decide +kernel
theorem se_9_6 : ((Str.ofString "always") = Str.ofString "At") = False := by simp; decide +kernel
theorem se_9_7 : ((Str.ofString "always") = Str.ofString "0") = False := by simp; decide +kernel
theorem se_9_8 : ((Str.ofString "always") = Str.ofString "") = False := by simp; decide +kernel
theorem se_9_10 : ((Str.ofString "always") = Str.ofString "never") = False := by simp; decide +kernel
theorem se_9_11 : ((Str.ofString "always") = Str.ofString "none") = False := by simp; decide +kernel
theorem se_9_12 : ((Str.ofString "always") = Str.ofString "some") = False := by simp; decide +kernel
theorem se_9_13 : ((Str.ofString "always") = Str.ofString "fitting") = False := by simp; decide +kernel
theorem so_10 : okD (.str "never") = true := okD_str (by decide +kernel)
theorem su_10 : pu (.str "never") = true := by simp only [pu]; decide +kernel
theorem se_10_0 : ((Str.ofString "never") = Str.ofString "not") = False := by simp; decide +kernel
theorem se_10_1 : ((Str.ofString "never") = Str.ofString "and") = False := by simp; decide +kernel
theorem se_10_2 : ((Str.ofString "never") = Str.ofString "or") = False := by simp; decide +kernel
theorem se_10_3 : ((Str.ofString "never") = Str.ofString "at") = False := by simp; decide +kernel
theorem se_10_4 : ((Str.ofString "never") = Str.ofString "ahead") = False := by simp; decide +kernel
theorem se_10_5 : ((Str.ofString "never") = Str.ofString "next") = False := by simp; decide +kernel
theorem se_10_6 : ((Str.ofString "never") = Str.ofString "At") = False := by simp; decide +kernel
theorem se_10_7 : ((Str.ofString "never") = Str.ofString "0") = False := by simp; decide +kernel
theorem se_10_8 : ((Str.ofString "never") = Str.ofString "") = False := by simp; decide +kernel
theorem se_10_9 : ((Str.ofString "never") = Str.ofString "always") = False := by simp; decide +kernel
theorem se_10_11 : ((Str.ofString "never") = Str.ofString "none") = False := by simp; decide +kernel
theorem se_10_12 : ((Str.ofString "never") = Str.ofString "some") = False := by simp; decide +kernel
theorem se_10_13 : ((Str.ofString "never") = Str.ofString "fitting") = False := by simp; decide +kernel
theorem so_11 : okD (.str "none") = true := okD_str (by decide +kernel)
theorem su_11 : pu (.str "none") = true := by simp only [pu]; decide +kernel
theorem se_11_0 : ((Str.ofString "none") = Str.ofString "not") = False := by simp; decide +kernel
theorem se_11_1 : ((Str.ofString "none") = Str.ofString "and") = False := by simp; decide +kernel
theorem se_11_2 : ((Str.ofString "none") = Str.ofString "or") = False := by simp; decide +kernel
theorem se_11_3 : ((Str.ofString "none") = Str.ofString "at") = False := by simp; decide +kernel
theorem se_11_4 : ((Str.ofString "none") = Str.ofString "ahead") = False := by simp; decide +kernel
theorem se_11_5 : ((Str.ofString "none") = Str.ofString "next") = False := by simp; decide +kernel
theorem se_11_6 : ((Str.ofString "none") = Str.ofString "At") = False := by simp; decide +kernel
theorem se_11_7 : ((Str.ofString "none") = Str.ofString "0") = False := by simp; decide +kernel
theorem se_11_8 : ((Str.ofString "none") = Str.ofString "") = False := by simp; decide +kernel
theorem se_11_9 : ((Str.ofString "none") = Str.ofString "always") = False := by simp; decide +kernel
theorem se_11_10 : ((Str.ofString "none") = Str.ofString "never") = False := by simp; decide +kernel
theorem se_11_12 : ((Str.ofString "none") = Str.ofString "some") = False := by simp; decide +kernel
theorem se_11_13 : ((Str.ofString "none") = Str.ofString "fitting") = False := by simp; decide +kernel
theorem so_12 : okD (.str "some") = true := okD_str (by decide +kernel)
theorem su_12 : pu (.str "some") = true := by simp only [pu]; decide +kernel
theorem se_12_0 : ((Str.ofString "some") = Str.ofString "not") = False := by simp; decide +kernel
theorem se_12_1 : ((Str.ofString "some") = Str.ofString "and") = False := by simp; decide +kernel
theorem se_12_2 : ((Str.ofString "some") = Str.ofString "or") = False := by simp; decide +kernel
theorem se_12_3 : ((Str.ofString "some") = Str.ofString "at") = False := by simp; decide +kernel
theorem se_12_4 : ((Str.ofString "some") = Str.ofString "ahead") = False := by simp; decide +kernel
theorem se_12_5 : ((Str.ofString "some") = Str.ofString "next") = False := by simp; decide +kernel
theorem se_12_6 : ((Str.ofString "some") = Str.ofString "At") = False := by simp; decide +kernel
theorem se_12_7 : ((Str.ofString "some") = Str.ofString "0") = False := by simp; decide +kernel
theorem se_12_8 : ((Str.ofString "some") = Str.ofString "") = False := by simp; decide +kernel
theorem se_12_9 : ((Str.ofString "some") = Str.ofString "always") = False := by simp; decide +kernel
theorem se_12_10 : ((Str.ofString "some") = Str.ofString "never") = False := by simp; decide +kernel
theorem se_12_11 : ((Str.ofString "some") = Str.ofString "none") = False := by simp; decide +kernel
theorem se_12_13 : ((Str.ofString "some") = Str.ofString "fitting") = False := by simp; decide +kernel
theorem so_13 : okD (.str "fitting") = true := okD_str (by decide +kernel)
theorem su_13 : pu (.str "fitting") = true := by simp only [pu]; decide +kernel
theorem se_13_0 : ((Str.ofString "fitting") = Str.ofString "not") = False := by simp; decide +kernel
theorem se_13_1 : ((Str.ofString "fitting") = Str.ofString "and") = False := by simp; decide +kernel
theorem se_13_2 : ((Str.ofString "fitting") = Str.ofString "or") = False := by simp; decide +kernel
theorem se_13_3 : ((Str.ofString "fitting") = Str.ofString "at") = False := by simp; decide +kernel
theorem se_13_4 : ((Str.ofString "fitting") = Str.ofString "ahead") = False := by simp; decide +kernel
theorem se_13_5 : ((Str.ofString "fitting") = Str.ofString "next") = False := by simp; decide +kernel
theorem se_13_6 : ((Str.ofString "fitting") = Str.ofString "At") = False := by simp; decide +kernel
theorem se_13_7 : ((Str.ofString "fitting") = Str.ofString "0") = False := by simp; decide +kernel
theorem se_13_8 : ((Str.ofString "fitting") = Str.ofString "") = False := by simp; decide +kernel
theorem se_13_9 : ((Str.ofString "fitting") = Str.ofString "always") = False := by simp; decide +kernel
theorem se_13_10 : ((Str.ofString "fitting") = Str.ofString "never") = False := by simp; decide +kernel
theorem se_13_11 : ((Str.ofString "fitting") = Str.ofString "none") = False := by simp; decide +kernel
theorem se_13_12 : ((Str.ofString "fitting") = Str.ofString "some") = False := by simp; decide +kernel
local macro_rules | `(tactic| simp! [$ts,*]) => `(tactic| simp only [wSeq, wNext, wIfS, wAsg, wRet, wRetN, wDrop, wOp, wUn, wgSub, wBM, z_tyd_lst,  wCB, wCons, wNil, wVar, wVarF, wC, wgName, wTe, wAnd, wOr, DL.wNot, wAndV, wOrV, wNotV, wIf, wCh, wEq, wNe, wIsi, wIsi2, wCall, wNever, wTup, wLst, wSl, wNoPart, wPart, wYes, endD, startR, newL_f, newL_t, List.map, List.length, List.length_cons, List.length_nil, List.getElem?_cons_zero, List.getElem?_cons_succ, List.set_cons_zero, List.set_cons_succ, List.cons_append, List.nil_append, List.append_nil, List.replicate, Nat.reduceSub, Nat.reduceAdd, Option.some.injEq, ex_some_iff, ex_bl_iff, ex_int_iff, ex_tup_iff, exists_eq_left', true_and, and_true, rd_non, rd_bl, rd_int, rd_str, rd_tup, rd_lst, pl_int, pl_bl, pl_non, pl_tup, pl_lst, pl_str, isNon_int, isNon_bl, isNon_non, isNon_tup, isNon_str, isNon_ref, isNon_lst, okD_int, okD_bl, okD_non, eqD_int, eqD_bl, eqD_non, eqD_str, flat_str, flat_non, flat_bl, inD_nil, inD_cons, wFld, wMeth, wBMT, List.all_cons, List.all_nil, Bool.and_true, Bool.true_and, Bool.false_eq_true, if_true, if_false, ite_true, ite_false, Bool.not_true, Bool.not_false, D.int.injEq, D.tup.injEq, D.wtup.injEq, false_or, or_false, D.lst.injEq, D.ref.injEq, D.bl.injEq, MO.lst.injEq, List.cons.injEq, reduceCtorEq, false_and, and_false, exists_const, and_assoc, exists_and_left, exists_eq_left, wLc, wiSeq, wipeR, id, wiEnum, wiZip, wiRng1, wiRng2, wgTup, lenOk, wgCons, wgNil, wFor, wLstRg1, z_in_lst, z_in_tup, flat_int, flat_ints, inD_ints, wRev, wDic0, wExtend,  z_ix_0, z_ixt_0, z_ix_1, z_ixt_1, z_ix_2, z_ixt_2, z_ix_3, z_ixt_3, z_ix_4, z_ixt_4, z_ix_5, z_ixt_5, z_ix_6, z_ixt_6, z_ix_7, z_ixt_7, z_ix_8, z_ixt_8, z_add_int, z_add_tup, z_add_lst, z_add_str, z_mul_int, z_mul_tup, z_mul_lst, z_ib_int, z_ii_int, z_neg_int, z_len_lst, z_len_tup, z_len_str, z_abs_int, z_int_int, z_cii_int, z_tuple_lst, z_tuple_tup, z_list_lst, z_list_tup, z_cut_lst, z_cut_tup, z_rev_lst, z_rev_tup, z_isN_, z_notN_, z_isB_, z_notB_, z_w1_, z_w2_, z_in_lst, z_in_tup, z_isK_int_int, z_isK_int_bl, z_isK_int_str, z_isK_int_tup, z_isK_int_lst, z_isK_int_dic, z_isK_int_non, z_isK_bool_int, z_isK_bool_bl, z_isK_bool_str, z_isK_bool_tup, z_isK_bool_lst, z_isK_bool_dic, z_isK_bool_non, z_isK_str_int, z_isK_str_bl, z_isK_str_str, z_isK_str_tup, z_isK_str_lst, z_isK_str_dic, z_isK_str_non, z_isK_tuple_int, z_isK_tuple_bl, z_isK_tuple_str, z_isK_tuple_tup, z_isK_tuple_lst, z_isK_tuple_dic, z_isK_tuple_non, z_isK_list_int, z_isK_list_bl, z_isK_list_str, z_isK_list_tup, z_isK_list_lst, z_isK_list_dic, z_isK_list_non, z_isK_dict_int, z_isK_dict_bl, z_isK_dict_str, z_isK_dict_tup, z_isK_dict_lst, z_isK_dict_dic, z_isK_dict_non, z_items_lst, z_items_tup, wDicN, lookD, rd_obj, wDPut, eq_self, decide_true, decide_false, Bool.or_false, Bool.false_or, Bool.or_true, Bool.true_or, Bool.false_and, Bool.and_false, so_0, su_0, se_0_1, se_0_2, se_0_3, se_0_4, se_0_5, se_0_6, se_0_7, se_0_8, se_0_9, se_0_10, se_0_11, se_0_12, se_0_13, so_1, su_1, se_1_0, se_1_2, se_1_3, se_1_4, se_1_5, se_1_6, se_1_7, se_1_8, se_1_9, se_1_10, se_1_11, se_1_12, se_1_13, so_2, su_2, se_2_0, se_2_1, se_2_3, se_2_4, se_2_5, se_2_6, se_2_7, se_2_8, se_2_9, se_2_10, se_2_11, se_2_12, se_2_13, so_3, su_3, se_3_0, se_3_1, se_3_2, se_3_4, se_3_5, se_3_6, se_3_7, se_3_8, se_3_9, se_3_10, se_3_11, se_3_12, se_3_13, so_4, su_4, se_4_0, se_4_1, se_4_2, se_4_3, se_4_5, se_4_6, se_4_7, se_4_8, se_4_9, se_4_10, se_4_11, se_4_12, se_4_13, so_5, su_5, se_5_0, se_5_1, se_5_2, se_5_3, se_5_4, se_5_6, se_5_7, se_5_8, se_5_9, se_5_10, se_5_11, se_5_12, se_5_13, so_6, su_6, se_6_0, se_6_1, se_6_2, se_6_3, se_6_4, se_6_5, se_6_7, se_6_8, se_6_9, se_6_10, se_6_11, se_6_12, se_6_13, so_7, su_7, se_7_0, se_7_1, se_7_2, se_7_3, se_7_4, se_7_5, se_7_6, se_7_8, se_7_9, se_7_10, se_7_11, se_7_12, se_7_13, so_8, su_8, se_8_0, se_8_1, se_8_2, se_8_3, se_8_4, se_8_5, se_8_6, se_8_7, se_8_9, se_8_10, se_8_11, se_8_12, se_8_13, so_9, su_9, se_9_0, se_9_1, se_9_2, se_9_3, se_9_4, se_9_5, se_9_6, se_9_7, se_9_8, se_9_10, se_9_11, se_9_12, se_9_13, so_10, su_10, se_10_0, se_10_1, se_10_2, se_10_3, se_10_4, se_10_5, se_10_6, se_10_7, se_10_8, se_10_9, se_10_11, se_10_12, se_10_13, so_11, su_11, se_11_0, se_11_1, se_11_2, se_11_3, se_11_4, se_11_5, se_11_6, se_11_7, se_11_8, se_11_9, se_11_10, se_11_12, se_11_13, so_12, su_12, se_12_0, se_12_1, se_12_2, se_12_3, se_12_4, se_12_5, se_12_6, se_12_7, se_12_8, se_12_9, se_12_10, se_12_11, se_12_13, so_13, su_13, se_13_0, se_13_1, se_13_2, se_13_3, se_13_4, se_13_5, se_13_6, se_13_7, se_13_8, se_13_9, se_13_10, se_13_11, se_13_12, $ts,*])
local macro_rules | `(tactic| simp! [$ts,*] at $h) => `(tactic| simp only [wSeq, wNext, wIfS, wAsg, wRet, wRetN, wDrop, wOp, wUn, wgSub, wBM, z_tyd_lst,  wCB, wCons, wNil, wVar, wVarF, wC, wgName, wTe, wAnd, wOr, DL.wNot, wAndV, wOrV, wNotV, wIf, wCh, wEq, wNe, wIsi, wIsi2, wCall, wNever, wTup, wLst, wSl, wNoPart, wPart, wYes, endD, startR, newL_f, newL_t, List.map, List.length, List.length_cons, List.length_nil, List.getElem?_cons_zero, List.getElem?_cons_succ, List.set_cons_zero, List.set_cons_succ, List.cons_append, List.nil_append, List.append_nil, List.replicate, Nat.reduceSub, Nat.reduceAdd, Option.some.injEq, ex_some_iff, ex_bl_iff, ex_int_iff, ex_tup_iff, exists_eq_left', true_and, and_true, rd_non, rd_bl, rd_int, rd_str, rd_tup, rd_lst, pl_int, pl_bl, pl_non, pl_tup, pl_lst, pl_str, isNon_int, isNon_bl, isNon_non, isNon_tup, isNon_str, isNon_ref, isNon_lst, okD_int, okD_bl, okD_non, eqD_int, eqD_bl, eqD_non, eqD_str, flat_str, flat_non, flat_bl, inD_nil, inD_cons, wFld, wMeth, wBMT, List.all_cons, List.all_nil, Bool.and_true, Bool.true_and, Bool.false_eq_true, if_true, if_false, ite_true, ite_false, Bool.not_true, Bool.not_false, D.int.injEq, D.tup.injEq, D.wtup.injEq, false_or, or_false, D.lst.injEq, D.ref.injEq, D.bl.injEq, MO.lst.injEq, List.cons.injEq, reduceCtorEq, false_and, and_false, exists_const, and_assoc, exists_and_left, exists_eq_left, wLc, wiSeq, wipeR, id, wiEnum, wiZip, wiRng1, wiRng2, wgTup, lenOk, wgCons, wgNil, wFor, wLstRg1, z_in_lst, z_in_tup, flat_int, flat_ints, inD_ints, wRev, wDic0, wExtend,  z_ix_0, z_ixt_0, z_ix_1, z_ixt_1, z_ix_2, z_ixt_2, z_ix_3, z_ixt_3, z_ix_4, z_ixt_4, z_ix_5, z_ixt_5, z_ix_6, z_ixt_6, z_ix_7, z_ixt_7, z_ix_8, z_ixt_8, z_add_int, z_add_tup, z_add_lst, z_add_str, z_mul_int, z_mul_tup, z_mul_lst, z_ib_int, z_ii_int, z_neg_int, z_len_lst, z_len_tup, z_len_str, z_abs_int, z_int_int, z_cii_int, z_tuple_lst, z_tuple_tup, z_list_lst, z_list_tup, z_cut_lst, z_cut_tup, z_rev_lst, z_rev_tup, z_isN_, z_notN_, z_isB_, z_notB_, z_w1_, z_w2_, z_in_lst, z_in_tup, z_isK_int_int, z_isK_int_bl, z_isK_int_str, z_isK_int_tup, z_isK_int_lst, z_isK_int_dic, z_isK_int_non, z_isK_bool_int, z_isK_bool_bl, z_isK_bool_str, z_isK_bool_tup, z_isK_bool_lst, z_isK_bool_dic, z_isK_bool_non, z_isK_str_int, z_isK_str_bl, z_isK_str_str, z_isK_str_tup, z_isK_str_lst, z_isK_str_dic, z_isK_str_non, z_isK_tuple_int, z_isK_tuple_bl, z_isK_tuple_str, z_isK_tuple_tup, z_isK_tuple_lst, z_isK_tuple_dic, z_isK_tuple_non, z_isK_list_int, z_isK_list_bl, z_isK_list_str, z_isK_list_tup, z_isK_list_lst, z_isK_list_dic, z_isK_list_non, z_isK_dict_int, z_isK_dict_bl, z_isK_dict_str, z_isK_dict_tup, z_isK_dict_lst, z_isK_dict_dic, z_isK_dict_non, z_items_lst, z_items_tup, wDicN, lookD, rd_obj, wDPut, eq_self, decide_true, decide_false, Bool.or_false, Bool.false_or, Bool.or_true, Bool.true_or, Bool.false_and, Bool.and_false, so_0, su_0, se_0_1, se_0_2, se_0_3, se_0_4, se_0_5, se_0_6, se_0_7, se_0_8, se_0_9, se_0_10, se_0_11, se_0_12, se_0_13, so_1, su_1, se_1_0, se_1_2, se_1_3, se_1_4, se_1_5, se_1_6, se_1_7, se_1_8, se_1_9, se_1_10, se_1_11, se_1_12, se_1_13, so_2, su_2, se_2_0, se_2_1, se_2_3, se_2_4, se_2_5, se_2_6, se_2_7, se_2_8, se_2_9, se_2_10, se_2_11, se_2_12, se_2_13, so_3, su_3, se_3_0, se_3_1, se_3_2, se_3_4, se_3_5, se_3_6, se_3_7, se_3_8, se_3_9, se_3_10, se_3_11, se_3_12, se_3_13, so_4, su_4, se_4_0, se_4_1, se_4_2, se_4_3, se_4_5, se_4_6, se_4_7, se_4_8, se_4_9, se_4_10, se_4_11, se_4_12, se_4_13, so_5, su_5, se_5_0, se_5_1, se_5_2, se_5_3, se_5_4, se_5_6, se_5_7, se_5_8, se_5_9, se_5_10, se_5_11, se_5_12, se_5_13, so_6, su_6, se_6_0, se_6_1, se_6_2, se_6_3, se_6_4, se_6_5, se_6_7, se_6_8, se_6_9, se_6_10, se_6_11, se_6_12, se_6_13, so_7, su_7, se_7_0, se_7_1, se_7_2, se_7_3, se_7_4, se_7_5, se_7_6, se_7_8, se_7_9, se_7_10, se_7_11, se_7_12, se_7_13, so_8, su_8, se_8_0, se_8_1, se_8_2, se_8_3, se_8_4, se_8_5, se_8_6, se_8_7, se_8_9, se_8_10, se_8_11, se_8_12, se_8_13, so_9, su_9, se_9_0, se_9_1, se_9_2, se_9_3, se_9_4, se_9_5, se_9_6, se_9_7, se_9_8, se_9_10, se_9_11, se_9_12, se_9_13, so_10, su_10, se_10_0, se_10_1, se_10_2, se_10_3, se_10_4, se_10_5, se_10_6, se_10_7, se_10_8, se_10_9, se_10_11, se_10_12, se_10_13, so_11, su_11, se_11_0, se_11_1, se_11_2, se_11_3, se_11_4, se_11_5, se_11_6, se_11_7, se_11_8, se_11_9, se_11_10, se_11_12, se_11_13, so_12, su_12, se_12_0, se_12_1, se_12_2, se_12_3, se_12_4, se_12_5, se_12_6, se_12_7, se_12_8, se_12_9, se_12_10, se_12_11, se_12_13, so_13, su_13, se_13_0, se_13_1, se_13_2, se_13_3, se_13_4, se_13_5, se_13_6, se_13_7, se_13_8, se_13_9, se_13_10, se_13_11, se_13_12, $ts,*] at $h)
local macro_rules | `(tactic| simp_all! [$ts,*]) => `(tactic| simp only [wSeq, wNext, wIfS, wAsg, wRet, wRetN, wDrop, wOp, wUn, wgSub, wBM, z_tyd_lst,  wCB, wCons, wNil, wVar, wVarF, wC, wgName, wTe, wOr, DL.wNot, wAndV, wOrV, wNotV, wCh, wEq, wNe, wIsi, wIsi2, wCall, wNever, wTup, wLst, wSl, wNoPart, wPart, wYes, endD, startR, newL_f, newL_t, List.map, List.length, List.length_cons, List.length_nil, List.getElem?_cons_zero, List.getElem?_cons_succ, List.set_cons_zero, List.set_cons_succ, List.cons_append, List.nil_append, List.append_nil, List.replicate, Nat.reduceSub, Nat.reduceAdd, Option.some.injEq, ex_some_iff, ex_bl_iff, ex_int_iff, ex_tup_iff, exists_eq_left', true_and, and_true, rd_non, rd_bl, rd_int, rd_str, rd_tup, rd_lst, pl_int, pl_bl, pl_non, pl_tup, pl_lst, pl_str, isNon_int, isNon_bl, isNon_non, isNon_tup, isNon_str, isNon_ref, isNon_lst, okD_int, okD_bl, okD_non, eqD_int, eqD_bl, eqD_non, eqD_str, flat_str, flat_non, flat_bl, inD_nil, inD_cons, wFld, wMeth, wBMT, List.all_cons, List.all_nil, Bool.and_true, Bool.true_and, Bool.false_eq_true, if_true, if_false, ite_true, ite_false, Bool.not_true, Bool.not_false, D.int.injEq, D.tup.injEq, D.wtup.injEq, false_or, or_false, D.lst.injEq, D.ref.injEq, D.bl.injEq, MO.lst.injEq, List.cons.injEq, reduceCtorEq, false_and, and_false, exists_const, and_assoc, exists_and_left, exists_eq_left, wLc, wiSeq, wipeR, id, wiEnum, wiZip, wiRng1, wiRng2, wgTup, lenOk, wgCons, wgNil, wFor, wLstRg1, z_in_lst, z_in_tup, flat_int, flat_ints, inD_ints, wRev, wDic0, wExtend,  z_ix_0, z_ixt_0, z_ix_1, z_ixt_1, z_ix_2, z_ixt_2, z_ix_3, z_ixt_3, z_ix_4, z_ixt_4, z_ix_5, z_ixt_5, z_ix_6, z_ixt_6, z_ix_7, z_ixt_7, z_ix_8, z_ixt_8, z_add_int, z_add_tup, z_add_lst, z_add_str, z_mul_int, z_mul_tup, z_mul_lst, z_ib_int, z_ii_int, z_neg_int, z_len_lst, z_len_tup, z_len_str, z_abs_int, z_int_int, z_cii_int, z_tuple_lst, z_tuple_tup, z_list_lst, z_list_tup, z_cut_lst, z_cut_tup, z_rev_lst, z_rev_tup, z_isN_, z_notN_, z_isB_, z_notB_, z_w1_, z_w2_, z_in_lst, z_in_tup, z_isK_int_int, z_isK_int_bl, z_isK_int_str, z_isK_int_tup, z_isK_int_lst, z_isK_int_dic, z_isK_int_non, z_isK_bool_int, z_isK_bool_bl, z_isK_bool_str, z_isK_bool_tup, z_isK_bool_lst, z_isK_bool_dic, z_isK_bool_non, z_isK_str_int, z_isK_str_bl, z_isK_str_str, z_isK_str_tup, z_isK_str_lst, z_isK_str_dic, z_isK_str_non, z_isK_tuple_int, z_isK_tuple_bl, z_isK_tuple_str, z_isK_tuple_tup, z_isK_tuple_lst, z_isK_tuple_dic, z_isK_tuple_non, z_isK_list_int, z_isK_list_bl, z_isK_list_str, z_isK_list_tup, z_isK_list_lst, z_isK_list_dic, z_isK_list_non, z_isK_dict_int, z_isK_dict_bl, z_isK_dict_str, z_isK_dict_tup, z_isK_dict_lst, z_isK_dict_dic, z_isK_dict_non, z_items_lst, z_items_tup, wDicN, lookD, rd_obj, wDPut, eq_self, decide_true, decide_false, Bool.or_false, Bool.false_or, Bool.or_true, Bool.true_or, Bool.false_and, Bool.and_false, so_0, su_0, se_0_1, se_0_2, se_0_3, se_0_4, se_0_5, se_0_6, se_0_7, se_0_8, se_0_9, se_0_10, se_0_11, se_0_12, se_0_13, so_1, su_1, se_1_0, se_1_2, se_1_3, se_1_4, se_1_5, se_1_6, se_1_7, se_1_8, se_1_9, se_1_10, se_1_11, se_1_12, se_1_13, so_2, su_2, se_2_0, se_2_1, se_2_3, se_2_4, se_2_5, se_2_6, se_2_7, se_2_8, se_2_9, se_2_10, se_2_11, se_2_12, se_2_13, so_3, su_3, se_3_0, se_3_1, se_3_2, se_3_4, se_3_5, se_3_6, se_3_7, se_3_8, se_3_9, se_3_10, se_3_11, se_3_12, se_3_13, so_4, su_4, se_4_0, se_4_1, se_4_2, se_4_3, se_4_5, se_4_6, se_4_7, se_4_8, se_4_9, se_4_10, se_4_11, se_4_12, se_4_13, so_5, su_5, se_5_0, se_5_1, se_5_2, se_5_3, se_5_4, se_5_6, se_5_7, se_5_8, se_5_9, se_5_10, se_5_11, se_5_12, se_5_13, so_6, su_6, se_6_0, se_6_1, se_6_2, se_6_3, se_6_4, se_6_5, se_6_7, se_6_8, se_6_9, se_6_10, se_6_11, se_6_12, se_6_13, so_7, su_7, se_7_0, se_7_1, se_7_2, se_7_3, se_7_4, se_7_5, se_7_6, se_7_8, se_7_9, se_7_10, se_7_11, se_7_12, se_7_13, so_8, su_8, se_8_0, se_8_1, se_8_2, se_8_3, se_8_4, se_8_5, se_8_6, se_8_7, se_8_9, se_8_10, se_8_11, se_8_12, se_8_13, so_9, su_9, se_9_0, se_9_1, se_9_2, se_9_3, se_9_4, se_9_5, se_9_6, se_9_7, se_9_8, se_9_10, se_9_11, se_9_12, se_9_13, so_10, su_10, se_10_0, se_10_1, se_10_2, se_10_3, se_10_4, se_10_5, se_10_6, se_10_7, se_10_8, se_10_9, se_10_11, se_10_12, se_10_13, so_11, su_11, se_11_0, se_11_1, se_11_2, se_11_3, se_11_4, se_11_5, se_11_6, se_11_7, se_11_8, se_11_9, se_11_10, se_11_12, se_11_13, so_12, su_12, se_12_0, se_12_1, se_12_2, se_12_3, se_12_4, se_12_5, se_12_6, se_12_7, se_12_8, se_12_9, se_12_10, se_12_11, se_12_13, so_13, su_13, se_13_0, se_13_1, se_13_2, se_13_3, se_13_4, se_13_5, se_13_6, se_13_7, se_13_8, se_13_9, se_13_10, se_13_11, se_13_12, $ts,*])
def isInt : D → Bool
  | .int _ => true
  | _ => false
def isWithin (x : D) (lo hi : Int) : Bool := match x with
  | .int i => decide (lo ≤ i) && decide (i ≤ hi)
  | _ => false
def isTup (x : D) (a b : Int) : Bool := match x with
  | .tup l => decide (a ≤ (l.length : Int)) && decide ((l.length : Int) ≤ b)
  | _ => false
def permN (n : Int) (order : List Int) : Prop := order.Perm ((List.range n.toNat).map fun (i : Nat) => (i : Int))
def JH : List D → List Int → Addr → Prop := fun xs cells c => ∃ p b r n : Int, xs = [.ref c, .int p, .int b, .int r, .int n] ∧ 0 ≤ p ∧ cells.length ≤ 63
theorem permN_length {n : Int} {order : List Int} (h0 : 0 ≤ n) (h : permN n order) : (order.length : Int) = n := by
  have := h.length_eq
  simp at this
  omega
theorem permN_mem {n : Int} {order : List Int} (h : permN n order) {l : Int} (hl : l ∈ order) : 0 ≤ l ∧ l < n := by
  have := h.mem_iff.mp hl
  simp at this
  obtain ⟨a, h1, rfl⟩ := this
  omega
theorem permN_sorted {n : Int} {ns : List Int} (h : permN n ns) (hs : ns.Pairwise (· ≤ ·)) : ns.map D.int = rangeD 0 n.toNat := by
  have e : ns = (List.range n.toNat).map fun (i : Nat) => (i : Int) := by
    refine h.eq_of_pairwise (le := (· ≤ ·)) (fun a b _ _ h1 h2 => Int.le_antisymm h1 h2) hs ?_
    rw [List.pairwise_map]
    exact List.Pairwise.imp (fun h => by omega) List.pairwise_lt_range
  rw [e]
  simp [rangeD]
theorem take_succ_foldl {α β : Type} {f : β → α → β} {z : β} {l : List α} {i : Nat} {a : α} (h : l[i]? = some a) : (l.take (i + 1)).foldl f z = f ((l.take i).foldl f z) a := by
  rw [List.take_add_one, h]
  simp
theorem map_int_get {l : List Int} {i : Nat} {d : D} (h : (l.map D.int)[i]? = some d) : ∃ a, l[i]? = some a ∧ d = .int a := by
  rw [List.getElem?_map] at h
  cases e : l[i]? with
  | none => rw [e] at h; cases h
  | some a => rw [e] at h; cases h; exact ⟨a, rfl, rfl⟩
theorem getD_mem {gs : List D} {i : Nat} (h : i < gs.length) : gs.getD i .non ∈ gs := by
  rw [List.getD_eq_getElem?_getD, List.getElem?_eq_getElem h]
  exact List.getElem_mem h
theorem enumD_mem {ds : List D} {d : D} (h : d ∈ enumD ds) : ∃ i : Nat, i < ds.length ∧ d = .wtup [.int (i : Nat), ds.getD i .non] := by
  obtain ⟨i, hi, rfl⟩ := List.mem_map.mp h
  exact ⟨i, List.mem_range.mp hi, rfl⟩
theorem enumD_all {ds : List D} {f : D → Bool} : (enumD ds).all f = (List.range ds.length).all fun i => f (.wtup [.int (i : Nat), ds.getD i .non]) := by
  unfold enumD
  rw [List.all_map]
  rfl
theorem intJH : IntRef JH := by
  rintro ds cells c ⟨p, b, r, n, rfl, _, _⟩ d hd
  simp only [List.mem_cons, List.not_mem_nil, or_false] at hd
  rcases hd with rfl | rfl | rfl | rfl | rfl <;> first | exact .inl ⟨_, rfl⟩ | exact .inr ⟨_, rfl⟩
/-- books that are made here -/
structure Bk where
  count : Int
  overs : List (List Int)
  dates : List (D × D)
  kinds : List (List Int)
def bkN : List Str := ["count", "overs", "dates", "kinds", "looked"]
def bkL (b : Bk) (L : D) : List D := [.int b.count, .tup (b.overs.map tupI), .tup (b.dates.map fun p => .tup [p.1, p.2]), .tup (b.kinds.map tupI), L]
/-- a book, changing or not -/
def BkAt (S : MS) (x : D) (b : Bk) : Prop := ∃ L, rd S x = .obj "Book" bkN (bkL b L)
theorem BkAt.sub {S S' : MS} {x : D} {b : Bk} (h : BkAt S x b) (s : DL.Sub S S') : BkAt S' x b := let ⟨L, e⟩ := h; ⟨L, rd_sub s e⟩
theorem f_count {b : Bk} {L : D} : fldD "count" bkN (bkL b L) = some (.int b.count) := rfl
theorem f_overs {b : Bk} {L : D} : fldD "overs" bkN (bkL b L) = some (.tup (b.overs.map tupI)) := rfl
theorem f_dates {b : Bk} {L : D} : fldD "dates" bkN (bkL b L) = some (.tup (b.dates.map fun p => .tup [p.1, p.2])) := rfl
theorem f_kinds {b : Bk} {L : D} : fldD "kinds" bkN (bkL b L) = some (.tup (b.kinds.map tupI)) := rfl
theorem f_looked {b : Bk} {L : D} : fldD "looked" bkN (bkL b L) = some L := rfl
def bound (d : D) : Prop := d = .non ∨ ∃ i : Int, d = .int i ∧ -100000 ≤ i ∧ i ≤ 100000
def dateOk (p : D × D) : Prop := bound p.1 ∧ bound p.2 ∧ ∀ i j : Int, p.1 = .int i → p.2 = .int j → i ≤ j
def bkOk (b : Bk) : Prop := (1 ≤ b.count ∧ b.count ≤ 16) ∧ ((∀ r ∈ b.overs, ∃ x y : Int, r = [x, y] ∧ x ≠ y ∧ (0 ≤ x ∧ x < b.count) ∧ (0 ≤ y ∧ y < b.count)) ∧ b.overs.Pairwise (· < ·)) ∧
  ((b.dates.length : Int) = b.count ∧ ∀ p ∈ b.dates, dateOk p) ∧ (b.kinds.length ≤ 16 ∧ ∀ r ∈ b.kinds, r.Pairwise (· < ·) ∧ (1 < r.length ∧ r.length ≤ 16) ∧ ∀ x ∈ r, 0 ≤ x ∧ x < b.count)
theorem permN_nodup {n : Int} {order : List Int} (h : permN n order) : order.Nodup := by
  refine (List.Perm.nodup_iff h).mpr ?_
  exact List.pairwise_map.mpr (List.Pairwise.imp (fun h e => by omega) List.pairwise_lt_range)
theorem permN_of {n : Int} {order : List Int} (h : permN n order) {a : Int} (ha : 0 ≤ a ∧ a < n) : a ∈ order := h.mem_iff.mpr (List.mem_map.mpr ⟨a.toNat, List.mem_range.mpr (by omega), by omega⟩)
theorem idxOf_getElem' {l : List Int} (h : l.Nodup) {i : Nat} (hi : i < l.length) : l.idxOf l[i] = i := by
  induction l generalizing i with
  | nil => cases hi
  | cons x l ih =>
    cases i with
    | zero => simp
    | succ i =>
      have h2 : i < l.length := by simpa using hi
      have hx : x ≠ l[i] := fun e => (List.nodup_cons.mp h).1 (e ▸ List.getElem_mem h2)
      show (x :: l).idxOf l[i] = i + 1
      rw [List.idxOf_cons, ih (List.nodup_cons.mp h).2 h2, show (x == l[i]) = false from by simpa using hx]
      rfl
theorem permN_mk {n : Int} {o : List Int} (h1 : o.Nodup) (h2 : ∀ x ∈ o, 0 ≤ x ∧ x < n) (h3 : o.length = n.toNat) : permN n o := by
  exact perm_of_nodup h1 (fun l hl => by have := h2 l hl; omega) h3
theorem exists_ints {p : Int → Prop} {xs : List D} (h : ∀ d ∈ xs, ∃ x : Int, d = .int x ∧ p x) : ∃ ys : List Int, xs = ys.map D.int ∧ ∀ y ∈ ys, p y := by
  induction xs with
  | nil => exact ⟨[], rfl, fun _ h => nomatch h⟩
  | cons d xs ih =>
    obtain ⟨x, rfl, hx⟩ := h d List.mem_cons_self
    obtain ⟨ys, rfl, hy⟩ := ih fun d hd => h d (List.mem_cons_of_mem _ hd)
    refine ⟨x :: ys, rfl, fun y h => ?_⟩
    rcases List.mem_cons.mp h with rfl | h
    · exact hx
    · exact hy y h
theorem set_t {S : MS} {t e : Addr} {m x : MO} (ht : S t = some x) (he : S e = none) : (S.set e m) t = some x := by
  rw [MS.set_ne (MS.ne_of ht he)]
  exact ht
def ranI (c : Int) : List Int := (List.range c.toNat).map fun (i : Nat) => (i : Int)
theorem ranI_mem {c x : Int} : x ∈ ranI c ↔ 0 ≤ x ∧ x < c := by
  unfold ranI
  rw [List.mem_map]
  constructor
  · rintro ⟨i, hi, rfl⟩
    have := List.mem_range.mp hi
    omega
  · rintro ⟨h0, h1⟩
    exact ⟨x.toNat, List.mem_range.mpr (by omega), by omega⟩
theorem ranI_nodup (c : Int) : (ranI c).Nodup := List.pairwise_map.mpr (List.Pairwise.imp (fun h e => by omega) List.pairwise_lt_range)
theorem ranI_lt (c : Int) : (ranI c).Pairwise (· < ·) := List.pairwise_map.mpr (List.Pairwise.imp (fun h => by omega) List.pairwise_lt_range)
theorem ranI_length (c : Int) : (ranI c).length = c.toNat := by simp [ranI]
theorem rangeD_ranI (c : Int) : rangeD 0 c.toNat = (ranI c).map D.int := by simp [rangeD, ranI]
def ltD : D → D → Bool
  | .int i, .int j => decide (i < j)
  | _, _ => false
def lateOf (b : Bk) (o : Int) : D := (b.dates.getD o.toNat (.non, .non)).2
def earlyOf (b : Bk) (o : Int) : D := (b.dates.getD o.toNat (.non, .non)).1
def freeL (c : Int) (p : List Int) : List Int := (ranI c).filter fun o => !decide (o ∈ p)
def leftL (c : Int) (p : List Int) (l : Int) : List Int := (ranI c).filter fun o => !decide (o ∈ p) && !decide (o = l)
def overL (b : Bk) (left : List Int) (l : Int) : Bool := b.overs.any fun r => match r with
  | [x, y] => decide (x = l) && decide (y ∈ left)
  | _ => false
def kindL (k p left : List Int) (l : Int) : Bool := p.any (fun o => decide (o ∈ k)) && !decide (l ∈ k) && left.any (fun o => decide (o ∈ k))
/-- whether a layer can stand next, as the law has it -/
def canL (b : Bk) (p : List Int) (l : Int) : Bool :=
  !overL b (leftL b.count p l) l && (b.kinds.all (fun k => !kindL k p (leftL b.count p l) l) && !(leftL b.count p l).any fun o => ltD (lateOf b o) (earlyOf b l))
def nextL (b : Bk) (p : List Int) : List Int := (freeL b.count p).filter (canL b p)
/-- .. as the program has it -/
def overP (p : List Int) (l : Int) : List Int → Bool
  | [x, y] => decide (x = l) && !decide (y ∈ p)
  | _ => false
def standsP (b : Bk) (p : List Int) (l : Int) : Bool :=
  !b.overs.any (overP p l) && !(leftL b.count p l).any fun o => ltD (lateOf b o) (earlyOf b l)
def metP (k p : List Int) : List Int := k.filter fun o => decide (o ∈ p)
def unbP (k p : List Int) (l : Int) : Bool :=
  if (decide ((metP k p).length = 0) || decide ((metP k p).length = k.length) || decide (l ∈ k)) = true then !decide (l ∈ k) || decide ((metP k p).length = 0) || (match p.getLast? with | some z => decide (z ∈ k) | none => false) else false
def Good (b : Bk) (p : List Int) : Prop := p.Nodup ∧ (∀ x ∈ p, 0 ≤ x ∧ x < b.count) ∧ ∀ k ∈ b.kinds, (∃ o ∈ k, o ∈ p) → (∃ o ∈ k, o ∉ p) → ∃ z, p.getLast? = some z ∧ z ∈ k
theorem good_nil (b : Bk) : Good b [] := ⟨List.nodup_nil, fun _ h => (nomatch h), fun k _ ⟨_, _, h⟩ => (nomatch h)⟩
theorem leftL_mem {c : Int} {p : List Int} {l x : Int} : x ∈ leftL c p l ↔ (0 ≤ x ∧ x < c) ∧ x ∉ p ∧ x ≠ l := by
  unfold leftL
  rw [List.mem_filter, ranI_mem]
  simp
theorem nextL_mem {b : Bk} {p : List Int} {l : Int} : l ∈ nextL b p ↔ (0 ≤ l ∧ l < b.count) ∧ l ∉ p ∧ canL b p l = true := by
  unfold nextL freeL
  rw [List.mem_filter, List.mem_filter, ranI_mem]
  simp [and_assoc]
theorem met_zero {k p : List Int} : (metP k p).length = 0 ↔ ¬ ∃ o ∈ k, o ∈ p := by
  unfold metP
  rw [List.length_eq_zero_iff, List.filter_eq_nil_iff]
  simp
theorem met_all {k p : List Int} : (metP k p).length = k.length ↔ ¬ ∃ o ∈ k, o ∉ p := by
  unfold metP
  rw [List.length_filter_eq_length_iff]
  simp
theorem any_dec {l : List Int} {P : Int → Prop} [DecidablePred P] : (l.any fun o => decide (P o)) = decide (∃ o ∈ l, P o) := by
  rw [Bool.eq_iff_iff, List.any_eq_true, decide_eq_true_eq]
  simp
/-- both ways of looking are one, along rows that can be begun -/
theorem can_eq {b : Bk} (hb : bkOk b) {p : List Int} (g : Good b p) {l : Int} (hp : l ∉ p) (hl : 0 ≤ l ∧ l < b.count) : (standsP b p l && b.kinds.all fun k => unbP k p l) = canL b p l := by
  unfold standsP canL
  have e1 : b.overs.any (overP p l) = overL b (leftL b.count p l) l := by
    unfold overL
    rw [Bool.eq_iff_iff, List.any_eq_true, List.any_eq_true]
    constructor
    · rintro ⟨r, hr, h⟩
      refine ⟨r, hr, ?_⟩
      obtain ⟨x, y, rfl, hxy, hx, hy⟩ := hb.2.1.1 r hr
      simp only [overP, Bool.and_eq_true, decide_eq_true_eq, Bool.not_eq_true', decide_eq_false_iff_not] at h ⊢
      exact ⟨h.1, leftL_mem.mpr ⟨hy, h.2, fun e => hxy (by rw [h.1, e])⟩⟩
    · rintro ⟨r, hr, h⟩
      refine ⟨r, hr, ?_⟩
      obtain ⟨x, y, rfl, hxy, hx, hy⟩ := hb.2.1.1 r hr
      simp only [overP, Bool.and_eq_true, decide_eq_true_eq, Bool.not_eq_true', decide_eq_false_iff_not] at h ⊢
      exact ⟨h.1, (leftL_mem.mp h.2).2.1⟩
  have e2 : (b.kinds.all fun k => unbP k p l) = b.kinds.all (fun k => !kindL k p (leftL b.count p l) l) := by
    rw [Bool.eq_iff_iff, List.all_eq_true, List.all_eq_true]
    refine forall_congr' fun k => forall_congr' fun hk => ?_
    obtain ⟨_, _, hkr⟩ := hb.2.2.2.2 k hk
    have hg := g.2.2 k hk
    have pa : (p.any fun o => decide (o ∈ k)) = decide (∃ o ∈ k, o ∈ p) := by
      rw [any_dec, decide_eq_decide]
      exact ⟨fun ⟨o, h1, h2⟩ => ⟨o, h2, h1⟩, fun ⟨o, h1, h2⟩ => ⟨o, h2, h1⟩⟩
    unfold unbP kindL
    rw [pa]
    by_cases hlk : l ∈ k
    · rw [decide_eq_true hlk]
      simp only [Bool.or_true, if_true, Bool.not_true, Bool.false_or, Bool.and_false, Bool.false_and, Bool.not_false, iff_true]
      by_cases h0 : ∃ o ∈ k, o ∈ p
      · obtain ⟨z, hz, hzk⟩ := hg h0 ⟨l, hlk, hp⟩
        rw [hz]
        simp [hzk]
      · rw [decide_eq_true (met_zero.mpr h0)]
        rfl
    · rw [decide_eq_false hlk]
      have la : ((leftL b.count p l).any fun o => decide (o ∈ k)) = decide (∃ o ∈ k, o ∉ p) := by
        rw [any_dec, decide_eq_decide]
        exact ⟨fun ⟨o, h1, h2⟩ => ⟨o, h2, (leftL_mem.mp h1).2.1⟩, fun ⟨o, h1, h2⟩ => ⟨o, leftL_mem.mpr ⟨hkr o h1, h2, fun e => hlk (e ▸ h1)⟩, h1⟩⟩
      rw [la, show decide ((metP k p).length = 0) = !decide (∃ o ∈ k, o ∈ p) by rw [← decide_not, decide_eq_decide]; exact met_zero,
        show decide ((metP k p).length = k.length) = !decide (∃ o ∈ k, o ∉ p) by rw [← decide_not, decide_eq_decide]; exact met_all]
      cases decide (∃ o ∈ k, o ∈ p) <;> cases decide (∃ o ∈ k, o ∉ p) <;> simp
  rw [e1, e2, Bool.and_assoc, Bool.and_comm (!(leftL b.count p l).any _)]
theorem good_next {b : Bk} (hb : bkOk b) {p : List Int} (g : Good b p) {l : Int} (h : l ∈ nextL b p) : Good b (p ++ [l]) := by
  obtain ⟨hl, hp, hc⟩ := nextL_mem.mp h
  refine ⟨?_, fun x hx => ?_, fun k hk h1 h2 => ⟨l, by simp, ?_⟩⟩
  · rw [List.nodup_append]
    exact ⟨g.1, by simp, fun a ha c hc => by rw [List.mem_singleton.mp hc]; rintro rfl; exact hp ha⟩
  · rcases List.mem_append.mp hx with h | h
    · exact g.2.1 x h
    · rw [List.mem_singleton.mp h]
      exact hl
  · refine Classical.byContradiction fun hlk => ?_
    unfold canL at hc
    simp only [Bool.and_eq_true] at hc
    have := List.all_eq_true.mp hc.2.1 k hk
    obtain ⟨_, _, hkr⟩ := hb.2.2.2.2 k hk
    obtain ⟨o, ho1, ho2⟩ := h1
    obtain ⟨u, hu1, hu2⟩ := h2
    have ho3 : o ∈ p := by
      rcases List.mem_append.mp ho2 with h | h
      · exact h
      · rw [List.mem_singleton.mp h] at ho1
        exact absurd ho1 hlk
    have hu3 : u ∉ p := fun z => hu2 (List.mem_append_left _ z)
    have hul : u ≠ l := fun e => hlk (e ▸ hu1)
    unfold kindL at this
    rw [show (p.any fun o => decide (o ∈ k)) = true from List.any_eq_true.mpr ⟨o, ho3, decide_eq_true ho1⟩, decide_eq_false hlk,
      show ((leftL b.count p l).any fun o => decide (o ∈ k)) = true from List.any_eq_true.mpr ⟨u, leftL_mem.mpr ⟨hkr u hu1, hu3, hul⟩, decide_eq_true hu1⟩] at this
    cases this
theorem free_len {c : Int} : ∀ {p : List Int}, p.Nodup → (∀ x ∈ p, 0 ≤ x ∧ x < c) → (freeL c p).length + p.length = c.toNat
  | [], _, _ => by
    unfold freeL
    rw [List.filter_eq_self.mpr (fun x _ => by simp), ranI_length]
    rfl
  | a :: p, hd, hr => by
    have ih := free_len (List.nodup_cons.mp hd).2 fun x hx => hr x (List.mem_cons_of_mem _ hx)
    have e : freeL c (a :: p) = (freeL c p).erase a := by
      unfold freeL
      rw [List.Nodup.erase_eq_filter ((ranI_nodup c).filter _), List.filter_filter]
      refine List.filter_congr fun x _ => ?_
      by_cases h1 : x = a <;> by_cases h2 : x ∈ p <;> simp [h1, h2]
    have ha : a ∈ freeL c p := List.mem_filter.mpr ⟨ranI_mem.mpr (hr a List.mem_cons_self), by simpa using (List.nodup_cons.mp hd).1⟩
    have hpos : 0 < (freeL c p).length := List.length_pos_of_mem ha
    rw [e, List.length_erase_of_mem ha, List.length_cons]
    omega
/-- all rows that go on from one, by so many layers -/
def ext (b : Bk) : Nat → List Int → List (List Int)
  | 0, p => [p]
  | n + 1, p => (nextL b p).flatMap fun l => ext b n (p ++ [l])
/-- the rows of so many layers -/
def lev (b : Bk) : Nat → List (List Int)
  | 0 => [[]]
  | n + 1 => (lev b n).flatMap fun p => (nextL b p).map fun l => p ++ [l]
def fits (b : Bk) : List (List Int) := lev b b.count.toNat
theorem lev_ext (b : Bk) : ∀ n k : Nat, (lev b k).flatMap (ext b n) = lev b (k + n)
  | 0, k => by
    rw [show ext b 0 = fun p => [p] from rfl]
    simp [List.flatMap_singleton']
  | n + 1, k => by
    rw [show k + (n + 1) = (k + 1) + n by omega, ← lev_ext b n (k + 1)]
    show (lev b k).flatMap (fun p => (nextL b p).flatMap fun l => ext b n (p ++ [l])) = ((lev b k).flatMap fun p => (nextL b p).map fun l => p ++ [l]).flatMap (ext b n)
    rw [List.flatMap_assoc]
    refine congrArg (fun f => (lev b k).flatMap f) (funext fun p => ?_)
    rw [List.flatMap_map]
theorem fits_ext (b : Bk) : fits b = ext b b.count.toNat [] := by
  have := lev_ext b b.count.toNat 0
  rw [Nat.zero_add] at this
  unfold fits
  rw [← this]
  simp [lev]
theorem lev_good {b : Bk} (hb : bkOk b) : ∀ k : Nat, ∀ p ∈ lev b k, Good b p ∧ p.length = k
  | 0, p, h => by
    rw [List.mem_singleton.mp h]
    exact ⟨good_nil b, rfl⟩
  | k + 1, p, h => by
    obtain ⟨q, hq, h⟩ := List.mem_flatMap.mp h
    obtain ⟨l, hl, rfl⟩ := List.mem_map.mp h
    obtain ⟨g, e⟩ := lev_good hb k q hq
    exact ⟨good_next hb g hl, by rw [List.length_append, e]; rfl⟩
theorem fits_perm {b : Bk} (hb : bkOk b) {o : List Int} (h : o ∈ fits b) : permN b.count o := by
  obtain ⟨g, e⟩ := lev_good hb _ o h
  exact permN_mk g.1 g.2.1 e
theorem next_len {b : Bk} {p : List Int} (g : Good b p) : (nextL b p).length + p.length ≤ b.count.toNat := by
  have h1 := free_len g.1 g.2.1
  have h2 : (nextL b p).length ≤ (freeL b.count p).length := List.length_filter_le _ _
  omega
def fac : Nat → Nat
  | 0 => 1
  | n + 1 => (n + 1) * fac n
theorem sum_le_mul {α : Type} {f : α → Nat} {m : Nat} : ∀ {l : List α}, (∀ x ∈ l, f x ≤ m) → (l.map f).sum ≤ l.length * m
  | [], _ => by simp
  | x :: l, h => by
    have ih := sum_le_mul (l := l) fun y hy => h y (List.mem_cons_of_mem _ hy)
    have := h x List.mem_cons_self
    rw [List.map_cons, List.sum_cons, List.length_cons, Nat.succ_mul]
    omega
theorem ext_len {b : Bk} (hb : bkOk b) : ∀ (n : Nat) (p : List Int), Good b p → p.length + n = b.count.toNat → (ext b n p).length ≤ fac n
  | 0, p, _, _ => Nat.le_refl 1
  | n + 1, p, g, h => by
    show ((nextL b p).flatMap fun l => ext b n (p ++ [l])).length ≤ (n + 1) * fac n
    rw [List.length_flatMap]
    have h1 := next_len g
    refine Nat.le_trans (sum_le_mul (m := fac n) fun l hl => ext_len hb n _ (good_next hb g hl) (by rw [List.length_append]; simp; omega)) (Nat.mul_le_mul_right _ (by omega))
theorem fits_len {b : Bk} (hb : bkOk b) : (fits b).length ≤ fac b.count.toNat := by
  rw [fits_ext]
  exact ext_len hb _ [] (good_nil b) (by simp)
/-- how many rows are gone through -/
def nod (b : Bk) : Nat → List Int → Nat
  | 0, _ => 1
  | n + 1, p => 1 + ((nextL b p).map fun l => nod b n (p ++ [l])).sum
theorem nod_le {b : Bk} (hb : bkOk b) (hc : b.count ≤ 6) : ∀ (n : Nat) (p : List Int), Good b p → nod b n p ≤ 8 ^ n
  | 0, p, _ => Nat.le_refl 1
  | n + 1, p, g => by
    show 1 + ((nextL b p).map fun l => nod b n (p ++ [l])).sum ≤ 8 ^ n * 8
    have h1 := next_len g
    have h2 : (nextL b p).length ≤ 6 := by omega
    have h3 : ((nextL b p).map fun l => nod b n (p ++ [l])).sum ≤ (nextL b p).length * 8 ^ n := sum_le_mul (m := 8 ^ n) fun l hl => nod_le hb hc n _ (good_next hb g hl)
    have h4 : (nextL b p).length * 8 ^ n ≤ 6 * 8 ^ n := Nat.mul_le_mul_right _ h2
    have h5 : 0 < 8 ^ n := Nat.pow_pos (by decide)
    omega
theorem nod_pos (b : Bk) (n : Nat) (p : List Int) : 1 ≤ nod b n p := by
  cases n with
  | zero => exact Nat.le_refl 1
  | succ n => exact Nat.le_add_right 1 _
/-- sayings -/
inductive Sy where
  | no (s : Sy)
  | an (s u : Sy)
  | or (s u : Sy)
  | at_ (a i : Int)
  | ah (a b : Int)
  | nx (a b : Int)
def syD : Sy → D
  | .no s => .tup [.str "not", syD s]
  | .an s u => .tup [.str "and", syD s, syD u]
  | .or s u => .tup [.str "or", syD s, syD u]
  | .at_ a i => .tup [.str "at", .int a, .int i]
  | .ah a b => .tup [.str "ahead", .int a, .int b]
  | .nx a b => .tup [.str "next", .int a, .int b]
def syDep : Sy → Nat
  | .no s => syDep s + 1
  | .an s u => max (syDep s) (syDep u) + 1
  | .or s u => max (syDep s) (syDep u) + 1
  | _ => 0
def syOk (c : Int) : Sy → Prop
  | .no s => syOk c s
  | .an s u => syOk c s ∧ syOk c u
  | .or s u => syOk c s ∧ syOk c u
  | .at_ a i => (0 ≤ a ∧ a < c) ∧ (0 ≤ i ∧ i < c)
  | .ah a b => (0 ≤ a ∧ a < c) ∧ (0 ≤ b ∧ b < c) ∧ a ≠ b
  | .nx a b => (0 ≤ a ∧ a < c) ∧ (0 ≤ b ∧ b < c) ∧ a ≠ b
def soS (order : List Int) : Sy → Bool
  | .no s => !soS order s
  | .an s u => soS order s && soS order u
  | .or s u => soS order s || soS order u
  | .at_ a i => decide ((order.idxOf a : Int) = i)
  | .ah a b => decide ((order.idxOf a : Int) < order.idxOf b)
  | .nx a b => decide ((order.idxOf a : Int) + 1 = order.idxOf b)
/-- what a saying is, of any thing -/
def sayIn (c : Int) : Nat → D → Bool
  | 0, _ => false
  | n + 1, .tup [.str w, y] => decide (w = "not") && sayIn c n y
  | n + 1, .tup [.str w, y, z] =>
    if w = "ahead" ∨ w = "next" then isWithin y 0 (c - 1) && isWithin z 0 (c - 1) && !eqD y z
    else if w = "at" then isWithin y 0 (c - 1) && isWithin z 0 (c - 1)
    else if w = "and" ∨ w = "or" then sayIn c n y && sayIn c n z
    else false
  | _ + 1, _ => false
theorem syD_pu : ∀ s : Sy, pu (syD s) = true
  | .no s => by simp only [syD, pu_tup, pus, su_0, syD_pu s, Bool.and_self]
  | .an s u => by simp only [syD, pu_tup, pus, su_1, syD_pu s, syD_pu u, Bool.and_self]
  | .or s u => by simp only [syD, pu_tup, pus, su_2, syD_pu s, syD_pu u, Bool.and_self]
  | .at_ a i => by simp only [syD, pu_tup, pus, su_3, pu_int, Bool.and_self]
  | .ah a b => by simp only [syD, pu_tup, pus, su_4, pu_int, Bool.and_self]
  | .nx a b => by simp only [syD, pu_tup, pus, su_5, pu_int, Bool.and_self]
theorem wi_true {x lo hi : Int} (h : lo ≤ x ∧ x ≤ hi) : isWithin (.int x) lo hi = true := by simp [isWithin, h.1, h.2]
theorem syD_in {c : Int} : ∀ {s : Sy}, syOk c s → ∀ n : Nat, syDep s < n → sayIn c n (syD s) = true
  | s, _, 0, h => absurd h (Nat.not_lt_zero _)
  | .no s, h, n + 1, l => by
    have := syD_in (s := s) h n (by simp only [syDep] at l; omega)
    simp [syD, sayIn, this]
  | .an s u, h, n + 1, l => by
    have h1 := syD_in (s := s) h.1 n (by simp only [syDep] at l; omega)
    have h2 := syD_in (s := u) h.2 n (by simp only [syDep] at l; omega)
    simp only [syD, sayIn, h1, h2, se_1_4, se_1_5, se_1_3, eq_self, true_or, or_self, if_true, if_false, Bool.and_self]
  | .or s u, h, n + 1, l => by
    have h1 := syD_in (s := s) h.1 n (by simp only [syDep] at l; omega)
    have h2 := syD_in (s := u) h.2 n (by simp only [syDep] at l; omega)
    simp only [syD, sayIn, h1, h2, se_2_4, se_2_5, se_2_3, eq_self, or_true, or_self, if_true, if_false, Bool.and_self]
  | .at_ a i, h, n + 1, _ => by
    simp only [syD, sayIn, se_3_4, se_3_5, eq_self, or_self, if_true, if_false, wi_true (show 0 ≤ a ∧ a ≤ c - 1 by have := h.1; omega), wi_true (show 0 ≤ i ∧ i ≤ c - 1 by have := h.2; omega), Bool.and_self]
  | .ah a b, h, n + 1, _ => by
    simp only [syD, sayIn, eq_self, true_or, if_true, wi_true (show 0 ≤ a ∧ a ≤ c - 1 by have := h.1; omega), wi_true (show 0 ≤ b ∧ b ≤ c - 1 by have := h.2.1; omega), eqD_int, decide_eq_false h.2.2, Bool.and_self, Bool.not_false]
  | .nx a b, h, n + 1, _ => by
    simp only [syD, sayIn, eq_self, or_true, if_true, wi_true (show 0 ≤ a ∧ a ≤ c - 1 by have := h.1; omega), wi_true (show 0 ≤ b ∧ b ≤ c - 1 by have := h.2.1; omega), eqD_int, decide_eq_false h.2.2, Bool.and_self, Bool.not_false]
def sp_is_integer : DSp := fun ds S Q _ => ∃ x, ds = [x] ∧ plD x = true ∧ Q (.bl (isInt x)) S
def sp_is_within : DSp := fun ds S Q _ => ∃ x lo hi, ds = [x, .int lo, .int hi] ∧ plD x = true ∧ Q (.bl (isWithin x lo hi)) S
def sp_is_tuple : DSp := fun ds S Q _ => ∃ x lo hi, ds = [x, .int lo, .int hi] ∧ plD x = true ∧ Q (.bl (isTup x lo hi)) S
def sp_is_row : DSp := fun ds S Q _ => ∃ (x : D) (xs : List D) (lo hi : Int), ds = [x, .int lo, .int hi] ∧ (x = .tup xs ∨ x = .lst xs) ∧ Q (.bl (decide (lo ≤ xs.length) && decide ((xs.length : Int) ≤ hi))) S
def sp_is_lot : DSp := fun ds S Q _ => ∃ (r : List Int) (many : Int), ds = [tupI r, .int many] ∧ r.length ≤ 1000 ∧ (r.Pairwise (· < ·) ∧ ∀ x ∈ r, 0 ≤ x ∧ x < many) ∧ Q (.bl true) S
def sp_is_pair : DSp := fun ds S Q _ => ∃ (c : Int) (y z : D), ds = [.int c, .tup [y, z]] ∧ pu y = true ∧ pu z = true ∧ Q (.bl (isWithin y 0 (c - 1) && isWithin z 0 (c - 1) && !eqD y z)) S
def sp_are_overs : DSp := fun ds S Q _ => ∃ (c : Int) (rs : List (List Int)), ds = [.int c, .tup (rs.map tupI)] ∧ rs.length ≤ 1000 ∧ (∀ r ∈ rs, ∃ x y : Int, r = [x, y] ∧ x ≠ y ∧ (0 ≤ x ∧ x < c) ∧ (0 ≤ y ∧ y < c)) ∧ rs.Pairwise (· < ·) ∧ Q (.bl true) S
def sp_is_bound : DSp := fun ds S Q _ => ∃ d, ds = [d] ∧ bound d ∧ Q (.bl true) S
def sp_is_date : DSp := fun ds S Q _ => ∃ p, ds = [.tup [Prod.fst p, Prod.snd p]] ∧ dateOk p ∧ Q (.bl true) S
def sp_is_kind : DSp := fun ds S Q _ => ∃ (c : Int) (r : List Int), ds = [.int c, tupI r] ∧ r.length ≤ 1000 ∧ (r.Pairwise (· < ·) ∧ ∀ x ∈ r, 0 ≤ x ∧ x < c) ∧ 1 < r.length ∧ Q (.bl true) S
theorem map_get {α β : Type} {f : α → β} {l : List α} {i : Nat} {d : β} (h : (l.map f)[i]? = some d) : ∃ k, l[i]? = some k ∧ d = f k := by
  rw [List.getElem?_map] at h
  cases e : l[i]? with
  | none => rw [e] at h; cases h
  | some a => rw [e] at h; cases h; exact ⟨a, rfl, rfl⟩
theorem any_congr' {α : Type} {f g : α → Bool} : ∀ {l : List α}, (∀ x ∈ l, f x = g x) → l.any f = l.any g
  | [], _ => rfl
  | x :: l, h => by rw [List.any_cons, List.any_cons, h x List.mem_cons_self, any_congr' fun y hy => h y (List.mem_cons_of_mem _ hy)]
theorem rd_dicM {S : MS} {a : Addr} {ks : List Key} {ds : List D} (h : S a = some (.dic ks ds)) : rd S (.ref a) = .dic ks ds := by
  show rdM a (S a) = _
  rw [h]
  rfl
def sp_is_dated : DSp := fun ds S Q _ => ∃ (x : D) (b : Bk) (u v : Int), ds = [x, .int u, .int v] ∧ BkAt S x b ∧ bkOk b ∧ (0 ≤ u ∧ u < b.count) ∧ (0 ≤ v ∧ v < b.count) ∧ Q (.bl (ltD (lateOf b u) (earlyOf b v))) S
theorem date_at {b : Bk} (hb : bkOk b) {o : Int} (h : 0 ≤ o ∧ o < b.count) : bound (earlyOf b o) ∧ bound (lateOf b o) ∧ (b.dates.map fun p => D.tup [p.1, p.2]).getD o.toNat .non = .tup [earlyOf b o, lateOf b o] := by
  have h1 := hb.2.2.1.1
  have hi : o.toNat < b.dates.length := by omega
  have e : b.dates.getD o.toNat (.non, .non) = b.dates[o.toNat] := by rw [List.getD_eq_getElem?_getD, List.getElem?_eq_getElem hi]; rfl
  have hd := hb.2.2.1.2 _ (List.getElem_mem hi)
  unfold earlyOf lateOf
  rw [e]
  exact ⟨hd.1, hd.2.1, getD_map (f := fun p : D × D => D.tup [p.1, p.2]) hi⟩
def sp_stands_first : DSp := fun ds S Q _ => ∃ (x : D) (b : Bk) (p : List Int) (l : Int), ds = [x, .tup (p.map D.int), .int l] ∧ BkAt S x b ∧ bkOk b ∧ b.overs.length ≤ 1000 ∧ p.length ≤ 16 ∧ (0 ≤ l ∧ l < b.count) ∧ Q (.bl (standsP b p l)) S
theorem wIxt_last {ds : List D} {d : D} {S : MS} {Q : KV2} (h : ds.getLast? = some d) (q : Q d S) : wIx (.tup ds) (.int (-1)) S Q := by
  refine (z_ixt_at ?_).mpr q
  have hne : ds ≠ [] := fun e => by rw [e] at h; cases h
  have hl : 0 < ds.length := List.length_pos_iff.mpr hne
  unfold atI ixN
  rw [if_neg (by decide), if_pos (by omega), show (-1 + (ds.length : Int)).toNat = ds.length - 1 by omega]
  show ds[ds.length - 1]? = _
  rw [← List.getLast?_eq_getElem?]
  exact h
def sp_is_unbroken : DSp := fun ds S Q _ => ∃ (k p : List Int) (l : Int), ds = [tupI k, .tup (p.map D.int), .int l] ∧ k.length ≤ 16 ∧ p.length ≤ 16 ∧ Q (.bl (unbP k p l)) S
def sp_longer : DSp := fun ds S Q _ => ∃ (x : D) (b : Bk) (p : List Int), ds = [x, .tup (p.map D.int)] ∧ BkAt S x b ∧ bkOk b ∧ b.overs.length ≤ 1000 ∧ Good b p ∧ p.length ≤ 16 ∧ Q (.lst ((nextL b p).map fun l => tupI (p ++ [l]))) S
def memoM (b : Bk) (m : Bool) : MO := if m = true then .dic [.inr "fitting"] [.lst ((fits b).map tupI)] else .dic [] []
def BkM (S : MS) (a d : Addr) (b : Bk) (m : Bool) : Prop := S a = some (.ins "Book" bkN (bkL b (.ref d))) ∧ S d = some (memoM b m)
def sp_fitting : DSp := fun ds S Q _ => ∃ (a d : Addr) (b : Bk) (m : Bool), ds = [.ref a] ∧ BkM S a d b m ∧ bkOk b ∧ b.count ≤ 6 ∧ b.overs.length ≤ 1000 ∧ Q (.lst ((fits b).map tupI)) (S.set d (memoM b true))
def sp_saying_in : Nat → DSp
  | 0 => fun _ _ _ _ => False
  | n + 1 => fun ds S Q _ => ∃ (c : Int) (d : D) (k : Int), ds = [.int c, d, .int k] ∧ pu d = true ∧ (0 ≤ k ∧ k ≤ n) ∧ Q (.bl (sayIn c k.toNat d)) S
def sp_check_saying : DSp := fun ds S Q _ => ∃ (x : D) (b : Bk) (s : Sy), ds = [x, syD s] ∧ BkAt S x b ∧ syOk b.count s ∧ syDep s ≤ 5 ∧ Q .non S
def sp_is_so : Nat → DSp
  | 0 => fun _ _ _ _ => False
  | n + 1 => fun ds S Q _ => ∃ (c : Int) (s : Sy) (order : List Int), ds = [syD s, .tup (order.map D.int)] ∧ syOk c s ∧ permN c order ∧ syDep s ≤ n ∧ Q (.bl (soS order s)) S
theorem fits_le {b : Bk} (hb : bkOk b) (hc : b.count ≤ 6) : (fits b).length ≤ 720 := by
  have h := fits_len hb
  have : fac b.count.toNat ≤ 720 := by
    have h1 := hb.1
    have : b.count.toNat ≤ 6 := by omega
    match b.count.toNat, this with
    | 0, _ | 1, _ | 2, _ | 3, _ | 4, _ | 5, _ | 6, _ => decide
  omega
def soL (b : Bk) (s : Sy) : List (List Int) := (fits b).filter fun o => soS o s
def sp_those_so : DSp := fun ds S Q _ => ∃ (a d : Addr) (b : Bk) (m : Bool) (s : Sy), ds = [.ref a, syD s] ∧ BkM S a d b m ∧ bkOk b ∧ b.count ≤ 6 ∧ b.overs.length ≤ 1000 ∧ syOk b.count s ∧ syDep s ≤ 5 ∧ Q (.lst ((soL b s).map tupI)) (S.set d (memoM b true))
def alwD (b : Bk) (s : Sy) : D :=
  if fits b = [] then .tup [.str "none"] else if soL b s = [] then .tup [.str "never"] else
  match soL b s, (fits b).filter (fun o => !soS o s) with
  | o :: _, u :: _ => .tup [.str "some", tupI o, tupI u]
  | _, _ => .tup [.str "always"]
def sp_always : DSp := fun ds S Q _ => ∃ (a d : Addr) (b : Bk) (m : Bool) (s : Sy), ds = [.ref a, syD s] ∧ BkM S a d b m ∧ bkOk b ∧ b.count ≤ 6 ∧ b.overs.length ≤ 1000 ∧ syOk b.count s ∧ syDep s ≤ 5 ∧ Q (alwD b s) (S.set d (memoM b true))
theorem find_hit {α : Type} {p : α → Bool} : ∀ {l : List α} {i : Nat} {o : α}, (∀ x ∈ l.take i, p x = false) → l[i]? = some o → p o = true → l.find? p = some o
  | [], _, _, _, h, _ => by cases h
  | x :: l, 0, o, _, h, hp => by
    have : x = o := by simpa using h
    subst this
    rw [List.find?_cons, hp]
  | x :: l, i + 1, o, h1, h, hp => by
    rw [List.find?_cons, h1 x (by simp)]
    exact find_hit (l := l) (i := i) (fun y hy => h1 y (by rw [List.take_succ_cons]; exact List.mem_cons_of_mem _ hy)) (by simpa using h) hp
theorem find_miss {α : Type} {p : α → Bool} {l : List α} (h : ∀ x ∈ l, p x = false) : l.find? p = none := List.find?_eq_none.mpr fun x hx => by rw [h x hx]; exact Bool.false_ne_true
theorem take_step {α : Type} {P : α → Prop} {l : List α} {i : Nat} {o : α} (h : ∀ x ∈ l.take i, P x) (hi : l[i]? = some o) (ho : P o) : ∀ x ∈ l.take (i + 1), P x := fun x hx => by
  rw [List.take_add_one, hi] at hx
  rcases List.mem_append.mp hx with hx | hx
  · exact h x hx
  · have : x = o := by simpa using hx
    rw [this]
    exact ho
def optD : Option (List Int) → D
  | some o => tupI o
  | none => .non
def sp_same_saying : DSp := fun ds S Q _ => ∃ (a d : Addr) (b : Bk) (m : Bool) (s u : Sy), ds = [.ref a, syD s, syD u] ∧ BkM S a d b m ∧ bkOk b ∧ b.count ≤ 6 ∧ b.overs.length ≤ 1000 ∧ syOk b.count s ∧ syDep s ≤ 5 ∧ syOk b.count u ∧ syDep u ≤ 5 ∧ Q (optD ((fits b).find? fun o => soS o s != soS o u)) (S.set d (memoM b true))
def folP (ss : List Sy) (s : Sy) (o : List Int) : Bool := ss.all (fun u => soS o u) && !soS o s
def sp_follows_so : DSp := fun ds S Q _ => ∃ (a d : Addr) (b : Bk) (m : Bool) (x : D) (ss : List Sy) (s : Sy), ds = [.ref a, x, syD s] ∧ (x = .tup (ss.map syD) ∨ x = .lst (ss.map syD)) ∧ BkM S a d b m ∧ bkOk b ∧ b.count ≤ 6 ∧ b.overs.length ≤ 1000 ∧ ss.length ≤ 6 ∧ (∀ u ∈ ss, syOk b.count u ∧ syDep u ≤ 5) ∧ syOk b.count s ∧ syDep s ≤ 5 ∧ Q (optD ((fits b).find? (folP ss s))) (S.set d (memoM b true))
def sp__law_hand : DSp := handSpO JH
def sp__law_draw : DSp := drawSpO JH
def sp__law_some : DSp := fun ds S Q _ => ∃ (t : Addr) (xs : List D), ds = [.ref t, .lst xs] ∧ S t = some (.opq (opq2 JH)) ∧ (0 < xs.length ∧ xs.length < 100000) ∧ ∀ x ∈ xs, Q x S
/-- what _law_is looks through -/
def okIs : Nat → D → Prop
  | 0, _ => False
  | n + 1, .tup ds => ds.length ≤ 1000 ∧ ∀ d ∈ ds, okIs n d
  | _ + 1, .int _ => True
  | _ + 1, .non => True
  | _ + 1, .str x => pu (.str x) = true
  | _ + 1, _ => False
theorem okIs_row {n : Nat} {r : List Int} (h : r.length ≤ 1000) : okIs (n + 2) (tupI r) := ⟨by rw [List.length_map]; exact h, fun d hd => by
  obtain ⟨i, _, rfl⟩ := List.mem_map.mp hd
  trivial⟩
def sp__law_is : Nat → DSp
  | 0 => fun _ _ _ _ => False
  | n + 1 => fun ds S Q _ => ∃ x : D, ds = [x, x] ∧ okIs n x ∧ Q (.bl true) S
def sp__law_shuffled : DSp := fun ds S Q _ => ∃ (t : Addr) (n : Int), ds = [.ref t, .int n] ∧ S t = some (.opq (opq2 JH)) ∧ (0 ≤ n ∧ n ≤ 16) ∧ ∀ order, permN n order → Q (.tup (order.map D.int)) S
def specD (b : Bk) : D := .tup [.int b.count, .tup (b.overs.map tupI), .tup (b.dates.map fun p => .tup [p.1, p.2]), .tup (b.kinds.map tupI)]
def sp__law_spec : DSp := fun ds S Q _ => ∃ (t : Addr) (c : Int), ds = [.ref t, .int c] ∧ S t = some (.opq (opq2 JH)) ∧ (1 ≤ c ∧ c ≤ 16) ∧ ∀ b : Bk, b.count = c → bkOk b → b.overs.length ≤ 1000 → Q (specD b) S
def sp__law_can_go : DSp := fun ds S Q _ => ∃ (b : Bk) (done : List Int) (l : Int), ds = [specD b, .tup (done.map D.int), .int l] ∧ bkOk b ∧ b.overs.length ≤ 1000 ∧ done.length ≤ 16 ∧ (0 ≤ l ∧ l < b.count) ∧ Q (.bl (canL b done l)) S
def sp__law_fitting : DSp := fun ds S Q _ => ∃ (b : Bk), ds = [specD b] ∧ bkOk b ∧ b.overs.length ≤ 1000 ∧ b.count ≤ 6 ∧ Q (.lst ((fits b).map tupI)) S
def sp__law_case : DSp := fun ds S Q _ => ∃ (t : Addr) (lo hi : Int), ds = [.ref t, .int lo, .int hi] ∧ S t = some (.opq (opq2 JH)) ∧ (1 ≤ lo ∧ lo ≤ hi ∧ hi ≤ 6) ∧ ∀ (b : Bk) (a d : Addr), (lo ≤ b.count ∧ b.count ≤ hi) → bkOk b → b.overs.length ≤ 1000 → S a = none → S d = none → a ≠ d →
  Q (.tup [specD b, .lst ((fits b).map tupI), .ref a]) ((S.set a (.ins "Book" bkN (bkL b (.ref d)))).set d (.dic [] []))
def sp__law_saying : Nat → DSp
  | 0 => fun _ _ _ _ => False
  | n + 1 => fun ds S Q _ => ∃ (t : Addr) (c k : Int), ds = [.ref t, .int c, .int k] ∧ S t = some (.opq (opq2 JH)) ∧ (1 ≤ c ∧ c ≤ 16) ∧ (1 ≤ k ∧ k ≤ n) ∧ ∀ s : Sy, syOk c s → (syDep s : Int) < k → Q (syD s) S
def sp__law_so : Nat → DSp
  | 0 => fun _ _ _ _ => False
  | n + 1 => fun ds S Q _ => ∃ (c : Int) (s : Sy) (order : List Int), ds = [syD s, .tup (order.map D.int)] ∧ syOk c s ∧ permN c order ∧ syDep s ≤ n ∧ Q (.bl (soS order s)) S
theorem idxOf_inj {l : List Int} {x y : Int} (hx : x ∈ l) (hy : y ∈ l) (h : l.idxOf x = l.idxOf y) : x = y := by
  have h1 := List.getElem_idxOf (List.idxOf_lt_length_of_mem hx)
  have h2 := List.getElem_idxOf (List.idxOf_lt_length_of_mem hy)
  simp only [h] at h1
  exact h1.symm.trans h2
def sp__law_turned : DSp := fun ds S Q _ => ∃ (t : Addr) (c : Int) (s : Sy), ds = [.ref t, syD s] ∧ syOk c s ∧ ∀ s', syOk c s' → syDep s' ≤ syDep s + 2 → (∀ o, permN c o → soS o s' = soS o s) → Q (syD s') S
def sp_law : DSp := fun ds S Q _ => ∃ ns : List Int, ds = [.lst (ns.map D.int)] ∧ (∀ a m, S a = some m → isOpq m = false) ∧ Q (.bl true) S
def knownB : Bk := ⟨3, [[0, 1]], [(.non, .non), (.non, .non), (.non, .non)], []⟩
theorem knownB_ok : bkOk knownB := by
  refine ⟨⟨by decide, by decide⟩, ⟨fun r hr => ?_, List.pairwise_singleton _ _⟩, ⟨rfl, fun p hp => ?_⟩, ⟨by decide, fun r hr => nomatch hr⟩⟩
  · rw [List.mem_singleton.mp hr]
    exact ⟨0, 1, rfl, by decide, by decide, by decide⟩
  · have : p = (.non, .non) := by simpa [knownB] using hp
    subst this
    exact ⟨.inl rfl, .inl rfl, fun i j h => nomatch h⟩
theorem t2 {a b a' b' : D} : eqD (.tup [a, b]) (.tup [a', b']) = (eqD a a' && eqD b b') := by
  show (eqD a a' && (eqD b b' && true)) = _
  rw [Bool.and_true]
theorem t3 {a b c a' b' c' : D} : eqD (.tup [a, b, c]) (.tup [a', b', c']) = (eqD a a' && (eqD b b' && eqD c c')) := by
  show (eqD a a' && (eqD b b' && (eqD c c' && true))) = _
  rw [Bool.and_true]
theorem t23 {a b a' b' c' : D} : eqD (.tup [a, b]) (.tup [a', b', c']) = false := by
  show (eqD a a' && (eqD b b' && false)) = _
  rw [Bool.and_false, Bool.and_false]
theorem t32 {a b c a' b' : D} : eqD (.tup [a, b, c]) (.tup [a', b']) = false := by
  show (eqD a a' && (eqD b b' && false)) = _
  rw [Bool.and_false, Bool.and_false]
theorem syD_inj : ∀ (s u : Sy), eqD (syD s) (syD u) = true → s = u := by
  intro s
  induction s with
  | no s ih =>
    intro u h
    cases u <;> simp only [syD, t2, t23, Bool.and_eq_true, Bool.false_eq_true] at h
    rw [ih _ h.2]
  | an s v ih1 ih2 =>
    intro u h
    cases u <;> simp! [syD, t3, t32, Bool.and_eq_true] at h
    rw [ih1 _ h.1, ih2 _ h.2]
  | or s v ih1 ih2 =>
    intro u h
    cases u <;> simp! [syD, t3, t32, Bool.and_eq_true] at h
    rw [ih1 _ h.1, ih2 _ h.2]
  | at_ a i =>
    intro u h
    cases u <;> simp! [syD, t3, t32, Bool.and_eq_true, decide_eq_true_eq] at h
    rw [h.1, h.2]
  | ah a i =>
    intro u h
    cases u <;> simp! [syD, t3, t32, Bool.and_eq_true, decide_eq_true_eq] at h
    rw [h.1, h.2]
  | nx a i =>
    intro u h
    cases u <;> simp! [syD, t3, t32, Bool.and_eq_true, decide_eq_true_eq] at h
    rw [h.1, h.2]
theorem okL_str {n : Nat} {a : Str} (h : okD (.str a) = true) : okL n (.str a) = true := by
  have h1 : ((PyData.str a).canLay0 && decide ((PyData.str a).depth ≤ 64)) = true := h
  rw [Bool.and_eq_true] at h1
  show ((PyData.str a).canLay0 && decide ((PyData.str a).depth ≤ n)) = true
  rw [h1.1]
  simp [PyData.depth]
theorem okL_sy : ∀ (s : Sy) (n : Nat), syDep s < n → okL n (syD s) = true
  | s, 0, h => absurd h (Nat.not_lt_zero _)
  | .no s, n + 1, h => okL_tup fun d hd => by
    simp only [List.mem_cons, List.not_mem_nil, or_false] at hd
    rcases hd with rfl | rfl
    · exact okL_str so_0
    · exact okL_sy s n (by simp only [syDep] at h; omega)
  | .an s u, n + 1, h => okL_tup fun d hd => by
    simp only [List.mem_cons, List.not_mem_nil, or_false] at hd
    rcases hd with rfl | rfl | rfl
    · exact okL_str so_1
    · exact okL_sy s n (by simp only [syDep] at h; omega)
    · exact okL_sy u n (by simp only [syDep] at h; omega)
  | .or s u, n + 1, h => okL_tup fun d hd => by
    simp only [List.mem_cons, List.not_mem_nil, or_false] at hd
    rcases hd with rfl | rfl | rfl
    · exact okL_str so_2
    · exact okL_sy s n (by simp only [syDep] at h; omega)
    · exact okL_sy u n (by simp only [syDep] at h; omega)
  | .at_ a i, n + 1, h => okL_tup fun d hd => by
    simp only [List.mem_cons, List.not_mem_nil, or_false] at hd
    rcases hd with rfl | rfl | rfl
    · exact okL_str so_3
    · exact okL_int
    · exact okL_int
  | .ah a i, n + 1, h => okL_tup fun d hd => by
    simp only [List.mem_cons, List.not_mem_nil, or_false] at hd
    rcases hd with rfl | rfl | rfl
    · exact okL_str so_4
    · exact okL_int
    · exact okL_int
  | .nx a i, n + 1, h => okL_tup fun d hd => by
    simp only [List.mem_cons, List.not_mem_nil, or_false] at hd
    rcases hd with rfl | rfl | rfl
    · exact okL_str so_5
    · exact okL_int
    · exact okL_int
theorem okD_sys {vs : List Sy} (h : ∀ v ∈ vs, syDep v ≤ 9) : okD (.lst (vs.map syD)) = true := okL_mono (okL_lst (n := 10) fun d hd => by
  obtain ⟨v, hv, rfl⟩ := List.mem_map.mp hd
  exact okL_sy v 10 (by have := h v hv; omega)) (by decide)
theorem okD_sy {s : Sy} (h : syDep s ≤ 9) : okD (syD s) = true := okL_mono (okL_sy s 10 (by omega)) (by decide)
theorem inD_sy {w : Sy} {vs : List Sy} (h : inD (syD w) (vs.map syD) = true) : w ∈ vs := by
  obtain ⟨d, hd, e⟩ := List.any_eq_true.mp h
  obtain ⟨v, hv, rfl⟩ := List.mem_map.mp hd
  rw [← syD_inj _ _ e]
  exact hv
theorem exists_sy {p : Sy → Prop} {xs : List D} (h : ∀ d ∈ xs, ∃ x : Sy, d = syD x ∧ p x) : ∃ ys : List Sy, xs = ys.map syD ∧ ∀ y ∈ ys, p y := by
  induction xs with
  | nil => exact ⟨[], rfl, fun _ h => nomatch h⟩
  | cons d xs ih =>
    obtain ⟨x, rfl, hx⟩ := h d List.mem_cons_self
    obtain ⟨ys, rfl, hy⟩ := ih fun d hd => h d (List.mem_cons_of_mem _ hd)
    refine ⟨x :: ys, rfl, fun y h => ?_⟩
    rcases List.mem_cons.mp h with rfl | h
    · exact hx
    · exact hy y h
theorem optD_okD (r : Option (List Int)) : okD (optD r) = true := by
  cases r with
  | none => rfl
  | some o => exact okD_row
theorem optD_is {b : Bk} (hb : bkOk b) {p : List Int → Bool} : okIs 5 (optD ((fits b).find? p)) := by
  cases e : (fits b).find? p with
  | none => trivial
  | some o =>
    have h1 := hb.1
    have := permN_length (by omega) (fits_perm hb (List.mem_of_find?_eq_some e))
    exact okIs_row (n := 3) (by omega)
theorem rd_opt (S : MS) (r : Option (List Int)) : rd S (optD r) = optD r := by cases r <;> rfl
theorem isNon_opt (r : Option (List Int)) : DL.isNon (optD r) = r.isNone := by cases r <;> rfl
theorem opt_in {r x y : Option (List Int)} (h : r = x ∨ r = y) : inD (optD r) [optD x, optD y] = true := by
  refine List.any_eq_true.mpr ?_
  rcases h with rfl | rfl
  · exact ⟨_, List.mem_cons_self, eqD_refl (optD_okD _)⟩
  · exact ⟨_, List.mem_cons_of_mem _ List.mem_cons_self, eqD_refl (optD_okD _)⟩
theorem pair_non (x y : Option (List Int)) : eqD (.lst [optD x, optD y]) (.lst [.non, .non]) = (x.isNone && y.isNone) := by
  cases x <;> cases y <;> rfl
theorem ok_pair (x y : Option (List Int)) : okD (.lst [optD x, optD y]) = true := okL_mono (okL_lst (n := 1) fun d hd => by
  simp only [List.mem_cons, List.not_mem_nil, or_false] at hd
  rcases hd with rfl | rfl
  · cases x with
    | none => exact okL_non
    | some o => exact okL_row (Nat.le_refl 1) o
  · cases y with
    | none => exact okL_non
    | some o => exact okL_row (Nat.le_refl 1) o) (by decide)
/-- of what one of two has alone -/
theorem find_two {α : Type} {p q r : α → Bool} (h : ∀ x, r x = (p x || q x)) : ∀ l : List α, l.find? r = l.find? p ∨ l.find? r = l.find? q
  | [] => .inl rfl
  | x :: l => by
    rw [List.find?_cons, List.find?_cons, List.find?_cons, h x]
    cases hp : p x <;> cases hq : q x <;> simp
    exact find_two h l
theorem find_two_none {α : Type} {p q r : α → Bool} (h : ∀ x, r x = (p x || q x)) (l : List α) : (l.find? r).isNone = ((l.find? p).isNone && (l.find? q).isNone) := by
  rw [Bool.eq_iff_iff, Bool.and_eq_true, Option.isNone_iff_eq_none, Option.isNone_iff_eq_none, Option.isNone_iff_eq_none, List.find?_eq_none, List.find?_eq_none, List.find?_eq_none]
  constructor
  · intro hr
    exact ⟨fun x hx e => hr x hx (by rw [h, e]; rfl), fun x hx e => hr x hx (by rw [h, e, Bool.or_true])⟩
  · rintro ⟨h1, h2⟩ x hx e
    rw [h, Bool.or_eq_true] at e
    rcases e with e | e
    · exact h1 x hx e
    · exact h2 x hx e
/-- always tells "always" just where nothing speaks against it -/
theorem alw_eq {b : Bk} (h : fits b ≠ []) (s : Sy) : eqD (alwD b s) (.tup [.str "always"]) = ((fits b).find? (folP [] s)).isNone := by
  have ef : (fits b).find? (folP [] s) = ((fits b).filter fun o => !soS o s).head? := by
    rw [List.head?_filter]
    rfl
  rw [ef]
  unfold alwD
  rw [if_neg h]
  by_cases h2 : soL b s = []
  · rw [if_pos h2]
    cases e : (fits b).filter (fun o => !soS o s) with
    | nil =>
      have h4 : soL b s = fits b := List.filter_eq_self.mpr fun o ho => by
        have := List.filter_eq_nil_iff.mp e o ho
        simpa using this
      exact absurd (h4.symm.trans h2) h
    | cons u us =>
      show eqD (.tup [.str "never"]) (.tup [.str "always"]) = false
      decide +kernel
  · rw [if_neg h2]
    cases e1 : soL b s with
    | nil => exact absurd e1 h2
    | cons o os =>
      cases e : (fits b).filter (fun o => !soS o s) with
      | nil =>
        show eqD (.tup [.str "always"]) (.tup [.str "always"]) = true
        decide +kernel
      | cons u us =>
        show (eqD (.str "some") (.str "always") && false) = false
        rw [Bool.and_false]
theorem alw_okD {b : Bk} (s : Sy) : okD (alwD b s) = true := by
  have one : ∀ w : Str, okD (.str w) = true → okD (.tup [.str w]) = true := fun w hw => okL_mono (okL_tup (n := 1) fun d hd => by
    rw [List.mem_singleton.mp hd]
    exact okL_str hw) (by decide)
  unfold alwD
  split
  · exact one _ so_11
  split
  · exact one _ so_10
  split
  · refine okL_mono (okL_tup (n := 1) fun d hd => ?_) (by decide)
    simp only [List.mem_cons, List.not_mem_nil, or_false] at hd
    rcases hd with rfl | rfl | rfl
    · exact okL_str so_12
    · exact okL_row (Nat.le_refl 1) _
    · exact okL_row (Nat.le_refl 1) _
  · exact one _ so_9
theorem rd_alw (S : MS) {b : Bk} (s : Sy) : rd S (alwD b s) = alwD b s := by
  unfold alwD
  split
  · rfl
  split
  · rfl
  split <;> rfl
/-- many roads, one end -/
theorem mergeE {w : DL.WE} {ρ : Rho} {S : MS} {Q : KD} (d : D) (h : ∀ Q' : KD, Q' d ρ S → w ρ S Q') (q : Q d ρ S) : w ρ S Q := h Q q
theorem mergeEP {w : DL.WE} {ρ : Rho} {S : MS} {Q : KD} (P : D → Prop) (h : ∀ Q' : KD, (∀ x, P x → Q' x ρ S) → w ρ S Q') (q : ∀ x, P x → Q x ρ S) : w ρ S Q := h Q q
theorem mergeT {w : WT} {ρ : Rho} {S : MS} {Q : Bool → Rho → MS → Prop} (d : Bool) (h : ∀ Q' : Bool → Rho → MS → Prop, Q' d ρ S → w ρ S Q') (q : Q d ρ S) : w ρ S Q := h Q q
theorem bl_eq {b c : Bool} {N : D → MS → Prop} {S : MS} (h : N (.bl c) S) (e : b = c) : N (.bl b) S := e ▸ h
def sp_Book___init__ : DSp := fun ds S Q _ => ∃ (a : Addr) (b : Bk), ds = [.ref a, .int b.count, .tup (b.overs.map tupI), .tup (b.dates.map fun p => .tup [p.1, p.2]), .tup (b.kinds.map tupI)] ∧ S a = some (.ins "Book" [] []) ∧ bkOk b ∧ b.overs.length ≤ 1000 ∧
  ∀ d, S d = none → Q .non ((S.set a (.ins "Book" bkN (bkL b (.ref d)))).set d (.dic [] []))
theorem sc_is_integer : FnScope ["thing"] ["thing"] (defScope s_is_integer) := ⟨rfl, rfl, rfl, by decide +kernel, rfl, by decide +kernel, by decide +kernel⟩
theorem ar_is_integer : ∀ ds S Q E, sp_is_integer ds S Q E → ds.length = 1 := by
  rintro ds S Q E h
  simp only [sp_is_integer] at h
  obtain ⟨_, h⟩ := h
  repeat (first | (obtain ⟨rfl, _⟩ := h; rfl) | (obtain ⟨_, h⟩ := h))
section
variable {P : Program} {w : World} {K : PySem.W.Frag} {mg : Str → Option Value} {base : Heap}
theorem O_is_integer (A : Al K mg) {f : Addr} {fd : FuncData} (Fu : FunD K "is_integer" "is_integer" (defArgs s_is_integer) (defBody s_is_integer) (defScope s_is_integer) [] [] f fd) : FnG P w K mg base CX0 1 f fd ["thing"] (spD K sp_is_integer) := by
  refine fn_d Fu sc_is_integer ar_is_integer (fun cdv A0 outer s0 H0 E0' hr => ⟨_, _,
      (db_one (ds_ret (de_and (de_isiK K .int rfl A.b_isinstance (de_var 0) A.b_int) (de_one (de_not (de_isiK K .bool rfl A.b_isinstance (de_var 0) A.b_bool)))))),
      ?_⟩)
  all_goals (
    rintro ds S Q Ed ⟨x, rfl, pl, q⟩
    simp! [rd_pl pl, pl]
    cases x <;> simp_all [isK, isInt] <;> exact outK.same q)
theorem D_is_integer (A : Al K mg) : Def P w K mg base CX0 1 "is_integer" ["thing"] sp_is_integer := by
  obtain ⟨f, fd, Fu, hm, hb⟩ := fu_is_integer A
  exact ⟨f, fd, O_is_integer A Fu, hm, Fu.kp, hb⟩
end
theorem sc_is_tuple : FnScope ["thing", "least", "most"] ["thing", "least", "most"] (defScope s_is_tuple) := ⟨rfl, rfl, rfl, by decide +kernel, rfl, by decide +kernel, by decide +kernel⟩
theorem ar_is_tuple : ∀ ds S Q E, sp_is_tuple ds S Q E → ds.length = 3 := by
  rintro ds S Q E h
  simp only [sp_is_tuple] at h
  obtain ⟨_, h⟩ := h
  repeat (first | (obtain ⟨rfl, _⟩ := h; rfl) | (obtain ⟨_, h⟩ := h))
section
variable {P : Program} {w : World} {K : PySem.W.Frag} {mg : Str → Option Value} {base : Heap}
theorem O_is_tuple (A : Al K mg) {f : Addr} {fd : FuncData} (Fu : FunD K "is_tuple" "is_tuple" (defArgs s_is_tuple) (defBody s_is_tuple) (defScope s_is_tuple) [] [] f fd) : FnG P w K mg base CX0 1 f fd ["thing", "least", "most"] (spD K sp_is_tuple) := by
  refine fn_d Fu sc_is_tuple ar_is_tuple (fun cdv A0 outer s0 H0 E0' hr => ⟨_, _,
      (db_one (ds_ret (de_and (de_isiK K .tuple rfl A.b_isinstance (de_var 0) A.b_tuple) (de_one (de_ch op_le op_le ro_IB ro_IB (de_var 1) (de_cb (call_lenK K) roc_len rfl A.b_len (by decide +kernel) (da_cons (de_var 0) da_nil)) (de_var 2)))))),
      ?_⟩)
  all_goals (
    rintro ds S Q Ed ⟨x, lo, hi, rfl, pl, q⟩
    simp! [rd_pl pl, pl]
    cases x <;> first | exact outK.same q | skip
    rename_i l
    simp! []
    refine ite_bl (fun h => ?_) (fun h => ?_) <;> simp only [isTup, h, Bool.true_and, Bool.false_and] at q <;> exact outK.same q)
theorem D_is_tuple (A : Al K mg) : Def P w K mg base CX0 1 "is_tuple" ["thing", "least", "most"] sp_is_tuple := by
  obtain ⟨f, fd, Fu, hm, hb⟩ := fu_is_tuple A
  exact ⟨f, fd, O_is_tuple A Fu, hm, Fu.kp, hb⟩
end
theorem sc_is_row : FnScope ["thing", "least", "most"] ["thing", "least", "most"] (defScope s_is_row) := ⟨rfl, rfl, rfl, by decide +kernel, rfl, by decide +kernel, by decide +kernel⟩
theorem ar_is_row : ∀ ds S Q E, sp_is_row ds S Q E → ds.length = 3 := by
  rintro ds S Q E h
  simp only [sp_is_row] at h
  obtain ⟨_, h⟩ := h
  repeat (first | (obtain ⟨rfl, _⟩ := h; rfl) | (obtain ⟨_, h⟩ := h))
section
variable {P : Program} {w : World} {K : PySem.W.Frag} {mg : Str → Option Value} {base : Heap}
theorem O_is_row (A : Al K mg) {f : Addr} {fd : FuncData} (Fu : FunD K "is_row" "is_row" (defArgs s_is_row) (defBody s_is_row) (defScope s_is_row) [] [] f fd) : FnG P w K mg base CX0 1 f fd ["thing", "least", "most"] (spD K sp_is_row) := by
  refine fn_d Fu sc_is_row ar_is_row (fun cdv A0 outer s0 H0 E0' hr => ⟨_, _,
      (db_one (ds_ret (de_and (de_isi2K K .list .tuple rfl A.b_isinstance (de_var 0) A.b_list A.b_tuple) (de_one (de_ch op_le op_le ro_IB ro_IB (de_var 1) (de_cb (call_lenK K) roc_len rfl A.b_len (by decide +kernel) (da_cons (de_var 0) da_nil)) (de_var 2)))))),
      ?_⟩)
  all_goals (
    rintro ds S Q Ed ⟨x, xs, lo, hi, rfl, hx, q⟩
    have e0 : ∀ p, decide (lo ≤ (xs.length : Int)) = p → Q (.bl (p && decide ((xs.length : Int) ≤ hi))) S := fun p e => e ▸ q
    rcases hx with rfl | rfl
    · simp! []
      exact ite_bl (fun h => outK.same (by have := e0 _ h; simpa using this)) (fun h => outK.same (by have := e0 _ h; simpa using this))
    · simp! []
      exact ite_bl (fun h => outK.same (by have := e0 _ h; simpa using this)) (fun h => outK.same (by have := e0 _ h; simpa using this)))
theorem D_is_row (A : Al K mg) : Def P w K mg base CX0 1 "is_row" ["thing", "least", "most"] sp_is_row := by
  obtain ⟨f, fd, Fu, hm, hb⟩ := fu_is_row A
  exact ⟨f, fd, O_is_row A Fu, hm, Fu.kp, hb⟩
end
theorem sc_is_dated : FnScope ["book", "a", "b", "late", "early"] ["book", "a", "b"] (defScope s_is_dated) := ⟨rfl, rfl, rfl, by decide +kernel, rfl, by decide +kernel, by decide +kernel⟩
theorem ar_is_dated : ∀ ds S Q E, sp_is_dated ds S Q E → ds.length = 3 := by
  rintro ds S Q E h
  simp only [sp_is_dated] at h
  obtain ⟨_, h⟩ := h
  repeat (first | (obtain ⟨rfl, _⟩ := h; rfl) | (obtain ⟨_, h⟩ := h))
section
variable {P : Program} {w : World} {K : PySem.W.Frag} {mg : Str → Option Value} {base : Heap}
theorem O_is_dated (A : Al K mg) {f : Addr} {fd : FuncData} (Fu : FunD K "is_dated" "is_dated" (defArgs s_is_dated) (defBody s_is_dated) (defScope s_is_dated) [] [] f fd) : FnG P w K mg base CX0 1 f fd ["book", "a", "b"] (spD K sp_is_dated) := by
  refine fn_d Fu sc_is_dated ar_is_dated (fun cdv A0 outer s0 H0 E0' hr => ⟨_, _,
      (db_cons (ds_par 3 4 rfl sc_is_dated.nd (by decide) (da_cons (de_ixK K (de_ixK K (de_fld K A.cls_Book A.na_Book_dates (de_var 0)) (de_var 1)) de_int) (da_cons (de_ixK K (de_ixK K (de_fld K A.cls_Book A.na_Book_dates (de_var 0)) (de_var 2)) de_int) da_nil)))
      (db_one (ds_ret (de_and (de_cmp op_notN ro_notN (de_var 3) de_non (nomark _)) (de_and (de_cmp op_notN ro_notN (de_var 4) de_non (nomark _)) (de_one (de_cmp op_lt ro_IB (de_var 3) (de_var 4) (nomark _)))))))),
      ?_⟩)
  all_goals (
    rintro ds S Q Ed ⟨x, b, u, v, rfl, ⟨L, hx⟩, hb, hu, hv, q⟩
    obtain ⟨_, e2, e3⟩ := date_at hb hu
    obtain ⟨f1, _, f3⟩ := date_at hb hv
    have hl := hb.2.2.1.1
    simp! [wPar, hx, f_dates, D.obj.injEq]
    refine wIxt hu.1 (by rw [List.length_map]; omega) ?_
    rw [e3]
    simp! [hx, f_dates, D.obj.injEq]
    refine wIxt hv.1 (by rw [List.length_map]; omega) ?_
    rw [f3]
    simp! []
    rcases e2 with e | ⟨i, e, _⟩ <;> rcases f1 with f | ⟨j, f, _⟩ <;> rw [e, f] at q ⊢ <;> simp! [] <;> exact outK.same q)
theorem D_is_dated (A : Al K mg) : Def P w K mg base CX0 1 "is_dated" ["book", "a", "b"] sp_is_dated := by
  obtain ⟨f, fd, Fu, hm, hb⟩ := fu_is_dated A
  exact ⟨f, fd, O_is_dated A Fu, hm, Fu.kp, hb⟩
end
theorem sc_is_unbroken : FnScope ["kind", "placed", "layer", "met", "one"] ["kind", "placed", "layer"] (defScope s_is_unbroken) := ⟨rfl, rfl, rfl, by decide +kernel, rfl, by decide +kernel, by decide +kernel⟩
theorem ar_is_unbroken : ∀ ds S Q E, sp_is_unbroken ds S Q E → ds.length = 3 := by
  rintro ds S Q E h
  simp only [sp_is_unbroken] at h
  obtain ⟨_, h⟩ := h
  repeat (first | (obtain ⟨rfl, _⟩ := h; rfl) | (obtain ⟨_, h⟩ := h))
section
variable {P : Program} {w : World} {K : PySem.W.Frag} {mg : Str → Option Value} {base : Heap}
theorem O_is_unbroken (A : Al K mg) {f : Addr} {fd : FuncData} (Fu : FunD K "is_unbroken" "is_unbroken" (defArgs s_is_unbroken) (defBody s_is_unbroken) (defScope s_is_unbroken) [] [] f fd) : FnG P w K mg base CX0 1 f fd ["kind", "placed", "layer"] (spD K sp_is_unbroken) := by
  refine fn_d Fu sc_is_unbroken ar_is_unbroken (fun cdv A0 outer s0 H0 E0' hr => ⟨_, _,
      (db_cons (ds_setLc false 3 [("one", 4)] rfl sc_is_unbroken.nd (di_seqK K (de_var 0)) (blkOk_by (by kernel_rfl)) (fun _ _ _ _ _ => (dg_name (vs := [4]) 4 (by decide) sc_is_unbroken.nd)) (fun _ _ _ _ _ => (dts_one (dt_cmp (op_inK K) (ro_in false) (de_var 4) (de_var 1) (by rfl)))) (fun _ _ _ _ _ => (de_var 4)))
      (db_cons (ds_if (dt_w (dw_or (dt_cmp (op_eqK K hr.units) ro_eq (de_cb (call_lenK K) roc_len rfl A.b_len (by decide +kernel) (da_cons (de_var 3) da_nil)) de_int (nomark _)) (dw_or (dt_cmp (op_eqK K hr.units) ro_eq (de_cb (call_lenK K) roc_len rfl A.b_len (by decide +kernel) (da_cons (de_var 3) da_nil)) (de_cb (call_lenK K) roc_len rfl A.b_len (by decide +kernel) (da_cons (de_var 0) da_nil)) (nomark _)) (dw_or1 (dt_cmp (op_inK K) (ro_in false) (de_var 2) (de_var 0) (by rfl))))))
        (db_one (ds_ret (de_or (de_cmp (op_notInK K) (ro_in true) (de_var 2) (de_var 0) (by rfl)) (de_or (de_cmp (op_eqK K hr.units) ro_eq (de_cb (call_lenK K) roc_len rfl A.b_len (by decide +kernel) (da_cons (de_var 3) da_nil)) de_int (nomark _)) (de_one (de_cmp (op_inK K) (ro_in false) (de_ixK K (de_var 1) (de_un un_neg ro_neg de_int)) (de_var 0) (by rfl)))))))
        db_nil)
      (db_one (ds_ret de_bl)))),
      ?_⟩)
  all_goals (
    rintro ds S Q Ed ⟨k, p, l, rfl, hk, hp, q⟩
    simp! [tupI]
    refine compL_filter (fun d => d) (fun d => inD d (p.map D.int)) noG_any (le_sz (by rw [List.length_map]; omega)) (fun d hd S2 sub N M' hN hM => ?_) ?_
    · obtain ⟨x, hx, rfl⟩ := List.mem_map.mp hd
      simp! []
      exact ite_bl (fun h => hN (by rw [inD_ints]; exact h)) (fun h => hM (by rw [inD_ints]; exact h))
    rw [List.map_id', show ((k.map D.int).filter fun d => inD d (p.map D.int)) = (metP k p).map D.int by
      rw [List.filter_map]
      refine congrArg _ (List.filter_congr fun x _ => ?_)
      exact inD_ints]
    simp! [List.length_map]
    have oq : ∀ v, unbP k p l = v → outK Q (.bl v) S := fun v e => outK.same (e ▸ q)
    by_cases hl : l ∈ k
    · rw [decide_eq_true hl]
      have e0 : unbP k p l = (decide ((metP k p).length = 0) || (match p.getLast? with | some z => decide (z ∈ k) | none => false)) := by
        unfold unbP
        rw [decide_eq_true hl]
        simp only [Bool.or_true, if_true, Bool.not_true, Bool.false_or]
        all_goals rfl
      by_cases h0 : (metP k p).length = 0
      · have e1 : unbP k p l = true := by rw [e0, decide_eq_true h0]; rfl
        simp! [decide_eq_true (show ((metP k p).length : Int) = 0 by omega), oq _ e1]
      · have hp0 : p ≠ [] := fun e => h0 (met_zero.mpr (by rw [e]; rintro ⟨_, _, h⟩; cases h))
        have e1 : unbP k p l = decide (p.getLast hp0 ∈ k) := by
          rw [e0, decide_eq_false h0, List.getLast?_eq_some_getLast hp0]
          rfl
        have key : wIx (D.tup (List.map D.int p)) (D.int (-1)) S fun d S3 => flatD (rd S3 d) = true ∧ outK Q (D.bl (inD (rd S3 d) (List.map D.int k))) S3 := by
          refine wIxt_last (d := .int (p.getLast hp0)) ?_ ⟨rfl, ?_⟩
          · rw [List.getLast?_map, List.getLast?_eq_some_getLast hp0]
            rfl
          · rw [rd_int, inD_ints]
            exact oq _ e1
        have hz : ((metP k p).length : Int) ≠ 0 := by omega
        simp! [decide_eq_false hz, key]
        split <;> trivial
    · rw [decide_eq_false hl]
      have e0 : unbP k p l = (decide ((metP k p).length = 0) || decide ((metP k p).length = k.length)) := by
        unfold unbP
        rw [decide_eq_false hl]
        simp only [Bool.or_false, Bool.not_false, Bool.true_or]
        split
        · rename_i h; exact h.symm
        · rename_i h; exact ((Bool.not_eq_true _).mp h).symm
      have k1 : decide (((metP k p).length : Int) = 0) = decide ((metP k p).length = 0) := decide_eq_decide.mpr (by omega)
      have k2 : decide (((metP k p).length : Int) = (k.length : Int)) = decide ((metP k p).length = k.length) := decide_eq_decide.mpr (by omega)
      simp! [k1, k2]
      refine ite_bl (fun h => oq _ (by rw [e0, h]; rfl)) (fun h => ite_bl (fun h2 => oq _ (by rw [e0, h, h2]; rfl)) (fun h2 => oq _ (by rw [e0, h, h2]; rfl))))
theorem D_is_unbroken (A : Al K mg) : Def P w K mg base CX0 1 "is_unbroken" ["kind", "placed", "layer"] sp_is_unbroken := by
  obtain ⟨f, fd, Fu, hm, hb⟩ := fu_is_unbroken A
  exact ⟨f, fd, O_is_unbroken A Fu, hm, Fu.kp, hb⟩
end
theorem sc__law_hand : FnScope ["script", "cells", "cell"] ["script"] (defScope s__law_hand) := ⟨rfl, rfl, rfl, by decide +kernel, rfl, by decide +kernel, by decide +kernel⟩
theorem ar__law_hand : ∀ ds S Q E, sp__law_hand ds S Q E → ds.length = 1 := by
  rintro ds S Q E h
  simp only [sp__law_hand] at h
  obtain ⟨_, h⟩ := h
  repeat (first | (obtain ⟨rfl, _⟩ := h; rfl) | (obtain ⟨_, h⟩ := h))
section
variable {P : Program} {w : World} {K : PySem.W.Frag} {mg : Str → Option Value} {base : Heap}
theorem O__law_hand (A : Al K mg) {f : Addr} {fd : FuncData} (Fu : FunD K "_law_hand" "_law_hand" (defArgs s__law_hand) (defBody s__law_hand) (defScope s__law_hand) [] [] f fd) : FnG P w K mg base CX0 1 f fd ["script"] (spD K sp__law_hand) := by
  refine fn_d Fu sc__law_hand ar__law_hand (fun cdv A0 outer s0 H0 E0' hr => ⟨_, _,
      (db_cons (ds_setLc true 1 [("cell", 2)] rfl sc__law_hand.nd (di_seqK K (de_slK K false (de_var 0) do_none (do_some de_int))) (blkOk_by (by kernel_rfl)) (fun _ _ _ _ _ => (dg_name (vs := [2]) 2 (by decide) sc__law_hand.nd)) (fun _ _ _ _ _ => dts_nil) (fun _ _ _ _ _ => (de_cb call_abs roc_abs rfl A.b_abs (by decide +kernel) (da_cons (de_ct call_int1 roc_int rfl A.b_int (by decide +kernel) (da_cons (de_var 2) da_nil)) da_nil))))
      (db_one (ds_ret (de_lst true (da_cons (de_var 1) (da_cons de_int (da_cons de_int (da_cons (de_op (op_addK K) (ro_add false) de_int (de_cb (call_lenK K) roc_len rfl A.b_len (by decide +kernel) (da_cons (de_var 1) da_nil))) (da_cons de_int da_nil))))))))),
      ?_⟩)
  all_goals (
    rintro ds S Q Ed ⟨ns, rfl, q⟩
    simp! []
    rw [cutD_to (by decide)]
    have e1 : ∀ {c : Addr} {l : List D}, rd (S.set c (.lst l)) (.ref c) = .lst l := z_rd_set
    refine compL_mapT (fun d => match d with | .int i => .int (if i < 0 then -i else i) | _ => .non) noG_any (le_sz (by rw [List.length_take]; omega)) (fun d hd S' sub N hN => ?_) (fun c hc => ?_)
    · obtain ⟨i, _, rfl⟩ := List.mem_map.mp (List.mem_of_mem_take hd)
      simp! []
      exact hN
    · rw [← List.map_take, List.map_map]
      have e2 : (ns.take (Int.toNat 63)).map ((fun d => match d with | .int i => D.int (if i < 0 then -i else i) | _ => .non) ∘ D.int) = ((ns.take (Int.toNat 63)).map fun i => if i < 0 then -i else i).map D.int := by
        rw [List.map_map]
        rfl
      rw [e2]
      simp! [e1]
      refine ⟨le_sz (by decide), fun t ht => ?_⟩
      have tc : t ≠ c := fun e => by
        rw [e, MS.set_same] at ht
        cases ht
      rw [MS.set_ne tc] at ht
      rw [opened_mk (Ne.symm tc)]
      refine outK.same (q t c _ _ ht hc (Ne.symm tc) ⟨0, 0, _, 0, rfl, Int.le_refl _, ?_⟩)
      rw [List.length_map, List.length_take]
      exact Nat.min_le_left _ _)
theorem D__law_hand (A : Al K mg) : Def P w K mg base CX0 1 "_law_hand" ["script"] sp__law_hand := by
  obtain ⟨f, fd, Fu, hm, hb⟩ := fu__law_hand A
  exact ⟨f, fd, O__law_hand A Fu, hm, Fu.kp, hb⟩
end
section
variable {P : Program} {w : World} {K : PySem.W.Frag} {mg : Str → Option Value} {base : Heap}
theorem V__law_hand (A : Al K mg) : Def P w K mg base CX0 1 "_law_hand" ["script"] (handSp JH) := hand_of intJH (D__law_hand A)
end
theorem sc__law_draw : FnScope ["hand", "limit", "cell", "digit", "number"] ["hand", "limit"] (defScope s__law_draw) := ⟨rfl, rfl, rfl, by decide +kernel, rfl, by decide +kernel, by decide +kernel⟩
theorem ar__law_draw : ∀ ds S Q E, sp__law_draw ds S Q E → ds.length = 2 := by
  rintro ds S Q E h
  simp only [sp__law_draw] at h
  obtain ⟨_, h⟩ := h
  repeat (first | (obtain ⟨rfl, _⟩ := h; rfl) | (obtain ⟨_, h⟩ := h))
section
variable {P : Program} {w : World} {K : PySem.W.Frag} {mg : Str → Option Value} {base : Heap}
theorem O__law_draw (A : Al K mg) {f : Addr} {fd : FuncData} (Fu : FunD K "_law_draw" "_law_draw" (defArgs s__law_draw) (defBody s__law_draw) (defScope s__law_draw) [] [] f fd) : FnG P w K mg base CX0 1 f fd ["hand", "limit"] (spD K sp__law_draw) := by
  refine fn_d Fu sc__law_draw ar__law_draw (fun cdv A0 outer s0 H0 E0' hr => ⟨_, _,
      (db_cons (ds_if (dt_w (dw_and (dt_cmp (op_eqK K hr.units) ro_eq (de_ixK K (de_var 0) de_int) de_int (nomark _)) (dw_and1 (dt_cmp op_lt ro_IB (de_ixK K (de_var 0) de_int) (de_cb (call_lenK K) roc_len rfl A.b_len (by decide +kernel) (da_cons (de_ixK K (de_var 0) de_int) da_nil)) (nomark _)))))
        (db_cons (ds_set 2 sc__law_draw.nd (de_ixK K (de_ixK K (de_var 0) de_int) (de_ixK K (de_var 0) de_int)))
        (db_cons (ds_asg (vs := []) (de_op (op_addK K) (ro_add false) (de_ixK K (de_var 0) de_int) de_int) (dg_setL (de_var 0) de_int))
        (db_cons (ds_asg (vs := []) (de_op op_mod ro_II (de_ct call_int1 roc_int rfl A.b_int (by decide +kernel) (da_cons (de_op (op_addK K) (ro_add false) (de_op (op_addK K) (ro_add false) (de_op (op_mulK K) (ro_mul false) (de_ixK K (de_var 0) de_int) de_int) (de_var 2)) de_int) da_nil)) de_int) (dg_setL (de_var 0) de_int))
        (db_one (ds_if (dt_cmp op_ge ro_IB (de_var 2) (de_op op_pow ro_II de_int de_int) (nomark _))
          (db_one (ds_asg (vs := []) (de_var 2) (dg_setL (de_var 0) de_int)))
          db_nil)))))
        db_nil)
      (db_cons (ds_if (dt_cmp op_gt ro_IB (de_ixK K (de_var 0) de_int) de_int (nomark _))
        (db_cons (ds_set 3 sc__law_draw.nd (de_op op_mod ro_II (de_ct call_int1 roc_int rfl A.b_int (by decide +kernel) (da_cons (de_ixK K (de_var 0) de_int) da_nil)) (de_var 1)))
        (db_cons (ds_asg (vs := []) (de_op op_fdiv ro_II (de_ixK K (de_var 0) de_int) (de_var 1)) (dg_setL (de_var 0) de_int))
        (db_one (ds_ret (de_var 3)))))
        db_nil)
      (db_cons (ds_asg (vs := []) (de_op (op_addK K) (ro_add false) (de_ixK K (de_var 0) de_int) de_int) (dg_setL (de_var 0) de_int))
      (db_cons (ds_set 4 sc__law_draw.nd (de_op op_mod ro_II (de_ct call_int1 roc_int rfl A.b_int (by decide +kernel) (da_cons (de_op (op_mulK K) (ro_mul false) (de_ct call_int1 roc_int rfl A.b_int (by decide +kernel) (da_cons (de_op (op_addK K) (ro_add false) (de_ixK K (de_var 0) de_int) (de_op (op_mulK K) (ro_mul false) de_int (de_ixK K (de_var 0) de_int))) da_nil)) de_int) da_nil)) de_int))
      (db_cons (ds_set 4 sc__law_draw.nd (de_op op_mod ro_II (de_ct call_int1 roc_int rfl A.b_int (by decide +kernel) (da_cons (de_op (op_mulK K) (ro_mul false) (de_var 4) (de_op (op_addK K) (ro_add false) (de_op op_fdiv ro_II (de_var 4) de_int) de_int)) da_nil)) de_int))
      (db_cons (ds_set 4 sc__law_draw.nd (de_op op_mod ro_II (de_ct call_int1 roc_int rfl A.b_int (by decide +kernel) (da_cons (de_op (op_mulK K) (ro_mul false) (de_var 4) (de_op (op_addK K) (ro_add false) (de_op op_fdiv ro_II (de_var 4) de_int) de_int)) da_nil)) de_int))
      (db_one (ds_ret (de_op op_mod ro_II (de_ct call_int1 roc_int rfl A.b_int (by decide +kernel) (da_cons (de_op op_fdiv ro_II (de_var 4) de_int) da_nil)) (de_var 1)))))))))),
      ?_⟩)
  all_goals (
    rintro ds S' Q Ed ⟨S, t, c, n, xs, cells, rfl, rfl, ⟨p, b, r, m, rfl, hp, hz⟩, sc, ct, hn, q⟩
    have e1 : ∀ (xs : List D) (cs : List Int), rd (opened S t c xs cs) (.ref t) = .lst xs := fun _ _ => z_rd_opt ct
    have e2 : ∀ (xs : List D) (cs : List Int), rd (opened S t c xs cs) (.ref c) = .lst (cs.map D.int) := fun _ _ => z_rd_opc
    have s1 : ∀ (a b c' d e v : D) (cs : List Int) (R : MS → Prop), wSetL (.ref t) (.int 1) v (opened S t c [a, b, c', d, e] cs) R ↔ R (opened S t c [a, v, c', d, e] cs) := fun _ _ _ _ _ _ _ _ => setL_op_iff (j := 1) ct rfl
    have s2 : ∀ (a b c' d e v : D) (cs : List Int) (R : MS → Prop), wSetL (.ref t) (.int 2) v (opened S t c [a, b, c', d, e] cs) R ↔ R (opened S t c [a, b, v, d, e] cs) := fun _ _ _ _ _ _ _ _ => setL_op_iff (j := 2) ct rfl
    have s3 : ∀ (a b c' d e v : D) (cs : List Int) (R : MS → Prop), wSetL (.ref t) (.int 3) v (opened S t c [a, b, c', d, e] cs) R ↔ R (opened S t c [a, b, c', v, e] cs) := fun _ _ _ _ _ _ _ _ => setL_op_iff (j := 3) ct rfl
    have s4 : ∀ (a b c' d e v : D) (cs : List Int) (R : MS → Prop), wSetL (.ref t) (.int 4) v (opened S t c [a, b, c', d, e] cs) R ↔ R (opened S t c [a, b, c', d, v] cs) := fun _ _ _ _ _ _ _ _ => setL_op_iff (j := 4) ct rfl
    have tn : Int.toNat 18 = 18 := rfl
    have fin : ∀ (i p b r m : Int), 0 ≤ p → 0 ≤ i → i < n → outK Q (.int i) (opened S t c [D.ref c, D.int p, D.int b, D.int r, D.int m] cells) := fun i p b r m h0 h1 h2 => outK.same (q i _ _ h1 h2 ⟨p, b, r, m, rfl, h0, hz⟩)
    have md : ∀ x : Int, 0 ≤ x % n ∧ x % n < n := fun x => ⟨Int.emod_nonneg _ (by omega), Int.emod_lt_of_pos _ hn.1⟩
    simp! [e1, e2, s1, s2, s3, s4]
    have cmr : ∀ x k : Int, -(2 ^ 64) < k ∧ k < 2 ^ 64 → CMul x k := fun x k h => .inr h
    have cml : ∀ x k : Int, -(2 ^ 64) < x ∧ x < 2 ^ 64 → CMul x k := fun x k h => .inl h
    refine ite_bl (fun h => ?_) (fun h => ?_)
    · refine ite_bl (fun h2 => ?_) (fun h2 => ?_)
      · have h2' : p < (cells.map D.int).length := of_decide_eq_true h2
        have h3 : p.toNat < cells.length := by rw [List.length_map] at h2'; omega
        have e4 : (cells.map D.int).getD p.toNat .non = .int (cells.getD p.toNat 0) := by
          rw [List.getD_eq_getElem?_getD, List.getD_eq_getElem?_getD, List.getElem?_map, List.getElem?_eq_getElem h3]
          rfl
        generalize cells.getD p.toNat 0 = cell at e4
        simp! [e1, e2, s1, s2, s3, s4, z_ix_lt hp h2', e4]
        repeat' first | with_reducible exact fin _ _ _ _ _ (by omega) (md _).1 (md _).2 | with_reducible apply And.intro | refine ite_bl (fun _ => ?_) (fun _ => ?_) | exact ⟨by decide, by decide, by decide⟩ | exact ⟨by omega, by omega⟩ | exact cmr _ _ (by omega) | exact cml _ _ (by omega) | omega
      · repeat' first | with_reducible exact fin _ _ _ _ _ (by omega) (md _).1 (md _).2 | with_reducible apply And.intro | refine ite_bl (fun _ => ?_) (fun _ => ?_) | exact ⟨by omega, by omega⟩ | exact cmr _ _ (by omega) | exact cml _ _ (by omega) | omega
    · repeat' first | with_reducible exact fin _ _ _ _ _ (by omega) (md _).1 (md _).2 | with_reducible apply And.intro | refine ite_bl (fun _ => ?_) (fun _ => ?_) | exact ⟨by omega, by omega⟩ | exact cmr _ _ (by omega) | exact cml _ _ (by omega) | omega)
theorem D__law_draw (A : Al K mg) : Def P w K mg base CX0 1 "_law_draw" ["hand", "limit"] sp__law_draw := by
  obtain ⟨f, fd, Fu, hm, hb⟩ := fu__law_draw A
  exact ⟨f, fd, O__law_draw A Fu, hm, Fu.kp, hb⟩
end
section
variable {P : Program} {w : World} {K : PySem.W.Frag} {mg : Str → Option Value} {base : Heap}
theorem V__law_draw (A : Al K mg) : Def P w K mg base CX0 1 "_law_draw" ["hand", "limit"] (drawSp JH) := draw_of intJH (D__law_draw A)
end
theorem sc__law_can_go : FnScope ["spec", "done", "layer", "count", "overs", "dates", "kinds", "left", "lot", "begun", "early", "one", "a", "b"] ["spec", "done", "layer"] (defScope s__law_can_go) := ⟨rfl, rfl, rfl, by decide +kernel, rfl, by decide +kernel, by decide +kernel⟩
theorem ar__law_can_go : ∀ ds S Q E, sp__law_can_go ds S Q E → ds.length = 3 := by
  rintro ds S Q E h
  simp only [sp__law_can_go] at h
  obtain ⟨_, h⟩ := h
  repeat (first | (obtain ⟨rfl, _⟩ := h; rfl) | (obtain ⟨_, h⟩ := h))
section
variable {P : Program} {w : World} {K : PySem.W.Frag} {mg : Str → Option Value} {base : Heap}
theorem O__law_can_go (A : Al K mg) {f : Addr} {fd : FuncData} (Fu : FunD K "_law_can_go" "_law_can_go" (defArgs s__law_can_go) (defBody s__law_can_go) (defScope s__law_can_go) [] [] f fd) : FnG P w K mg base CX0 1 f fd ["spec", "done", "layer"] (spD K sp__law_can_go) := by
  refine fn_d Fu sc__law_can_go ar__law_can_go (fun cdv A0 outer s0 H0 E0' hr => ⟨_, _,
      (db_cons (ds_asg (vs := [3, 4, 5, 6]) (de_var 0) (dg_tupK K (n := 4) rfl (dgs_cons (dg_name (vs := [3, 4, 5, 6]) 3 (by decide) sc__law_can_go.nd) (dgs_cons (dg_name (vs := [3, 4, 5, 6]) 4 (by decide) sc__law_can_go.nd) (dgs_cons (dg_name (vs := [3, 4, 5, 6]) 5 (by decide) sc__law_can_go.nd) (dgs_cons (dg_name (vs := [3, 4, 5, 6]) 6 (by decide) sc__law_can_go.nd) dgs_nil))))))
      (db_cons (ds_set 7 sc__law_can_go.nd (de_lc false [("one", 11)] rfl sc__law_can_go.nd (di_range1 rfl A.b_range (da_cons (de_var 3) da_nil)) (blkOk_by (by kernel_rfl)) (fun _ _ _ _ _ => (dg_name (vs := [11]) 11 (by decide) sc__law_can_go.nd)) (fun _ _ _ _ _ => (dts_one (dt_w (dw_and (dt_cmp (op_notInK K) (ro_in true) (de_var 11) (de_var 1) (by rfl)) (dw_and1 (dt_cmp (op_neK K hr.units) ro_ne (de_var 11) (de_var 2) (nomark _))))))) (fun _ _ _ _ _ => (de_var 11))))
      (db_cons (ds_if (dt_val (de_cb (cr_anyK K rfl) roc_any rfl A.b_any (by decide +kernel) (da_cons (de_lc false [("a", 12), ("b", 13)] rfl sc__law_can_go.nd (di_seqK K (de_var 4)) (blkOk_by (by kernel_rfl)) (fun _ _ _ _ _ => (dg_tupK K (n := 2) rfl (dgs_cons (dg_name (vs := [12, 13]) 12 (by decide) sc__law_can_go.nd) (dgs_cons (dg_name (vs := [12, 13]) 13 (by decide) sc__law_can_go.nd) dgs_nil)))) (fun _ _ _ _ _ => dts_nil) (fun _ _ _ _ _ => (de_and (de_cmp (op_eqK K hr.units) ro_eq (de_var 12) (de_var 2) (nomark _)) (de_one (de_cmp (op_inK K) (ro_in false) (de_var 13) (de_var 7) (by rfl)))))) da_nil)))
        (db_one (ds_ret de_bl))
        db_nil)
      (db_cons (ds_for (vs := [8]) PassesOwn.never rfl (di_seqK K (de_var 6)) (dg_name (vs := [8]) 8 (by decide) sc__law_can_go.nd)
        (db_cons (ds_set 9 sc__law_can_go.nd (de_cb (cr_anyK K rfl) roc_any rfl A.b_any (by decide +kernel) (da_cons (de_lc false [("one", 11)] rfl sc__law_can_go.nd (di_seqK K (de_var 1)) (blkOk_by (by kernel_rfl)) (fun _ _ _ _ _ => (dg_name (vs := [11]) 11 (by decide) sc__law_can_go.nd)) (fun _ _ _ _ _ => dts_nil) (fun _ _ _ _ _ => (de_cmp (op_inK K) (ro_in false) (de_var 11) (de_var 8) (by rfl)))) da_nil)))
        (db_one (ds_if (dt_w (dw_and (dt_val (de_var 9)) (dw_and (dt_cmp (op_notInK K) (ro_in true) (de_var 2) (de_var 8) (by rfl)) (dw_and1 (dt_val (de_cb (cr_anyK K rfl) roc_any rfl A.b_any (by decide +kernel) (da_cons (de_lc false [("one", 11)] rfl sc__law_can_go.nd (di_seqK K (de_var 7)) (blkOk_by (by kernel_rfl)) (fun _ _ _ _ _ => (dg_name (vs := [11]) 11 (by decide) sc__law_can_go.nd)) (fun _ _ _ _ _ => dts_nil) (fun _ _ _ _ _ => (de_cmp (op_inK K) (ro_in false) (de_var 11) (de_var 8) (by rfl)))) da_nil)))))))
          (db_one (ds_ret de_bl))
          db_nil))))
      (db_cons (ds_set 10 sc__law_can_go.nd (de_ixK K (de_ixK K (de_var 5) (de_var 2)) de_int))
      (db_one (ds_ret (de_or (de_cmp op_isN ro_isN (de_var 10) de_non (nomark _)) (de_one (de_not (de_cb (cr_anyK K rfl) roc_any rfl A.b_any (by decide +kernel) (da_cons (de_lc false [("one", 11)] rfl sc__law_can_go.nd (di_seqK K (de_var 7)) (blkOk_by (by kernel_rfl)) (fun _ _ _ _ _ => (dg_name (vs := [11]) 11 (by decide) sc__law_can_go.nd)) (fun _ _ _ _ _ => dts_nil) (fun _ _ _ _ _ => (de_and (de_cmp op_notN ro_notN (de_ixK K (de_ixK K (de_var 5) (de_var 11)) de_int) de_non (nomark _)) (de_one (de_cmp op_lt ro_IB (de_ixK K (de_ixK K (de_var 5) (de_var 11)) de_int) (de_var 10) (nomark _)))))) da_nil)))))))))))),
      ?_⟩)
  all_goals (
    rintro ds S Q Ed ⟨b, done, l, rfl, hb, hz, hl, hlb, q⟩
    simp! [specD]
    have hc := hb.1
    have fin : ∀ f, canL b done l = f → outK Q (.bl f) S := fun f e => outK.same (e ▸ q)
    refine ⟨by omega, by omega, compL_filter (fun d => d) (fun d => !inD d (done.map D.int) && !eqD d (.int l)) noG_any (le_sz (by rw [rangeD_length]; omega)) (fun d hd S' sub N M hN hM => ?_) ?_⟩
    · obtain ⟨x, hx, rfl⟩ := rangeD_mem hd
      simp! []
      have e : (!inD (D.int (0 + (x : Int))) (done.map D.int) && !eqD (D.int (0 + (x : Int))) (.int l)) = (!decide (0 + (x : Int) ∈ done) && !decide (0 + (x : Int) = l)) := by rw [inD_ints, eqD_int]
      rw [e] at hN hM
      refine ite_bl (fun h1 => ite_bl (fun h2 => hN ?_) (fun h2 => hM ?_)) (fun h1 => hM ?_)
      · rw [h1, h2]; rfl
      · rw [h1, h2]; rfl
      · rw [h1]; rfl
    rw [List.map_id', rangeD_ranI, List.filter_map, show (ranI b.count).filter ((fun d => !inD d (done.map D.int) && !eqD d (.int l)) ∘ D.int) = leftL b.count done l from List.filter_congr fun x _ => by
      show (!inD (.int x) (done.map D.int) && !eqD (.int x) (.int l)) = _
      rw [inD_ints, eqD_int]]
    have hll : (leftL b.count done l).length ≤ 16 := by
      have := List.length_filter_le (fun o => !decide (o ∈ done) && !decide (o = l)) (ranI b.count)
      rw [ranI_length] at this
      exact Nat.le_trans this (by omega)
    have hlr : ∀ x ∈ leftL b.count done l, 0 ≤ x ∧ x < b.count := fun x hx => (leftL_mem.mp hx).1
    unfold canL at fin
    generalize leftL b.count done l = left at fin hll hlr ⊢
    refine compAny (ds := b.overs.map tupI) (fun d => match d with | .tup [.int x, .int y] => decide (x = l) && decide (y ∈ left) | _ => false) noG_any (le_sz (by rw [List.length_map]; omega)) (fun d hd S' sub N hN => ?_) ?_
    · obtain ⟨r, hr, rfl⟩ := List.mem_map.mp hd
      obtain ⟨x, y, rfl, _⟩ := hb.2.1.1 r hr
      have hN : N (.bl (decide (x = l) && decide (y ∈ left))) S' := hN
      simp! [tupI]
      refine ite_bl (fun h => ?_) (fun h => ?_)
      · rw [h] at hN
        exact hN
      · rw [h] at hN
        exact hN
    rw [show ((b.overs.map tupI).any fun d => match d with | .tup [.int x, .int y] => decide (x = l) && decide (y ∈ left) | _ => false) = overL b left l by
      unfold overL
      rw [List.any_map]
      refine any_congr' fun r hr => ?_
      obtain ⟨x, y, rfl, _⟩ := hb.2.1.1 r hr
      rfl]
    refine ⟨_, rfl, ite_bl (fun h => fin _ (by rw [h]; rfl)) (fun h0 => ?_)⟩
    rw [h0] at fin
    refine forW_n (fun i ρ S' => S' = S ∧ (b.kinds.take i).all (fun k => !kindL k done left l) = true ∧ ∃ z1 z2, ρ = [some (D.tup [D.int b.count, D.tup (List.map tupI b.overs), D.tup (List.map (fun p => D.tup [p.fst, p.snd]) b.dates), D.tup (List.map tupI b.kinds)]), some (D.tup (List.map D.int done)), some (D.int l), some (D.int b.count), some (D.tup (List.map tupI b.overs)), some (D.tup (List.map (fun p => D.tup [p.fst, p.snd]) b.dates)), some (D.tup (List.map tupI b.kinds)), some (.lst (left.map D.int)), z1, z2, none, none, none, none]) (fun _ _ _ _ => trivial) (fun i e ρ S' hd h N hN => ?hs) (fun ρ S' h => ?hd) ⟨rfl, rfl, none, none, rfl⟩
    case hs =>
      obtain ⟨rfl, hall, z1, z2, rfl⟩ := h
      obtain ⟨k, hk, rfl⟩ := map_get hd
      have anyin : ∀ (is : List Int) (ρ : Rho), is.length ≤ 16 → ∀ R : KV2, R (.bl (is.any fun o => decide (o ∈ k))) S' → ∀ z, ρ = [some (D.tup [D.int b.count, D.tup (List.map tupI b.overs), D.tup (List.map (fun p => D.tup [p.fst, p.snd]) b.dates), D.tup (List.map tupI b.kinds)]), some (D.tup (List.map D.int done)), some (D.int l), some (D.int b.count), some (D.tup (List.map tupI b.overs)), some (D.tup (List.map (fun p => D.tup [p.fst, p.snd]) b.dates)), some (D.tup (List.map tupI b.kinds)), some (.lst (left.map D.int)), some (D.tup (List.map D.int k)), z, none, none, none, none] → ∀ a, S' a = none →
          compW a noG (wgName 11) wYes (wOp (wIn false) (wVar 11) (wVar 8)) (fun S2 => endL false a S2 fun d S3 => cAny (rd S3 d) S3 R) ρ (is.map D.int) (S'.set a (MO.lst [])) := by
        rintro is _ hi R hR z rfl
        refine compAny (fun d => inD d (k.map D.int)) noG_any (le_sz (by rw [List.length_map]; omega)) (fun d hd S' sub N hN => ?_) ?_
        · obtain ⟨x, hx, rfl⟩ := List.mem_map.mp hd
          rw [inD_ints] at hN
          simp! []
          exact hN
        · rw [List.any_map, show is.any ((fun d => inD d (k.map D.int)) ∘ D.int) = is.any fun o => decide (o ∈ k) from any_congr' fun x _ => inD_ints]
          exact hR
      have step : kindL k done left l = false → N [some (D.tup [D.int b.count, D.tup (List.map tupI b.overs), D.tup (List.map (fun p => D.tup [p.fst, p.snd]) b.dates), D.tup (List.map tupI b.kinds)]), some (D.tup (List.map D.int done)), some (D.int l), some (D.int b.count), some (D.tup (List.map tupI b.overs)), some (D.tup (List.map (fun p => D.tup [p.fst, p.snd]) b.dates)), some (D.tup (List.map tupI b.kinds)), some (.lst (left.map D.int)), some (D.tup (List.map D.int k)), some (.bl (done.any fun o => decide (o ∈ k))), none, none, none, none] S' := fun e => by
        refine hN _ _ ⟨rfl, ?_, _, _, rfl⟩
        rw [List.take_add_one, hk, List.all_append, hall, Option.toList_some, List.all_cons, e]
        rfl
      have bad : kindL k done left l = true → outK Q (.bl false) S' := fun e => by
        refine fin _ ?_
        rw [show (b.kinds.all fun k => !kindL k done left l) = false from by
          rw [Bool.eq_false_iff]
          intro h
          have := List.all_eq_true.mp h k (List.mem_of_getElem? hk)
          rw [e] at this
          cases this]
        rfl
      simp! [tupI]
      refine anyin done _ hl _ ?_ _ rfl
      refine ⟨_, rfl, ite_bl (fun h1 => ite_bl (fun h2 => ?_) (fun h2 => step ?_)) (fun h1 => step ?_)⟩
      · refine anyin left _ hll _ ?_ _ rfl
        refine ⟨_, rfl, ite_bl (fun h3 => bad ?_) (fun h3 => step ?_)⟩
        · unfold kindL; rw [h1, h2, h3]; rfl
        · unfold kindL; rw [h1, h2, h3]; rfl
      · unfold kindL; rw [h1, h2]; rfl
      · unfold kindL; rw [h1]; rfl
    case hd =>
      obtain ⟨rfl, hall, z1, z2, rfl⟩ := h
      rw [List.length_map, List.take_length] at hall
      rw [hall] at fin
      have hdl : (b.dates.map fun p => D.tup [p.1, p.2]).length = b.dates.length := by rw [List.length_map]
      have hd1 := hb.2.2.1.1
      obtain ⟨hp1, _, e1⟩ := date_at hb hlb
      simp! []
      refine wIxt hlb.1 (by omega) ?_
      rw [e1]
      simp! []
      have fin2 : ∀ f, (left.any fun o => ltD (lateOf b o) (earlyOf b l)) = f → outK Q (.bl (!f)) S' := fun f e => fin _ (by rw [e]; cases f <;> rfl)
      rcases hp1 with e2 | ⟨i1, e2, hi1⟩
      · rw [e2] at fin2 ⊢
        simp! []
        exact fin2 false (by rw [any_congr' (g := fun _ => false) fun x _ => by cases lateOf b x <;> rfl]; simp)
      · rw [e2] at fin2 ⊢
        simp! []
        refine compAny (ds := left.map D.int) (fun d => match d with | .int o => ltD (lateOf b o) (.int i1) | _ => false) noG_any (le_sz (by rw [List.length_map]; omega)) (fun d hd S' sub N hN => ?_) ?_
        · obtain ⟨x, hx, rfl⟩ := List.mem_map.mp hd
          have hN : N (.bl (ltD (lateOf b x) (.int i1))) S' := hN
          have hxb := hlr x hx
          obtain ⟨_, hq2, e3⟩ := date_at hb hxb
          simp! []
          refine wIxt hxb.1 (by omega) ?_
          rw [e3]
          simp! []
          rcases hq2 with e4 | ⟨i2, e4, hi2⟩
          · rw [e4] at hN ⊢
            simp! []
            exact hN
          · rw [e4] at hN ⊢
            simp! []
            refine wIxt hxb.1 (by omega) ?_
            rw [e3]
            simp! [e4]
            exact hN
        · rw [List.any_map]
          exact ⟨_, rfl, fin2 _ rfl⟩)
theorem D__law_can_go (A : Al K mg) : Def P w K mg base CX0 1 "_law_can_go" ["spec", "done", "layer"] sp__law_can_go := by
  obtain ⟨f, fd, Fu, hm, hb⟩ := fu__law_can_go A
  exact ⟨f, fd, O__law_can_go A Fu, hm, Fu.kp, hb⟩
end
theorem sc__law_turned : FnScope ["hand", "saying", "word"] ["hand", "saying"] (defScope s__law_turned) := ⟨rfl, rfl, rfl, by decide +kernel, rfl, by decide +kernel, by decide +kernel⟩
theorem ar__law_turned : ∀ ds S Q E, sp__law_turned ds S Q E → ds.length = 2 := by
  rintro ds S Q E h
  simp only [sp__law_turned] at h
  obtain ⟨_, h⟩ := h
  repeat (first | (obtain ⟨rfl, _⟩ := h; rfl) | (obtain ⟨_, h⟩ := h))
section
variable {P : Program} {w : World} {K : PySem.W.Frag} {mg : Str → Option Value} {base : Heap}
theorem O__law_turned (A : Al K mg) {f : Addr} {fd : FuncData} (Fu : FunD K "_law_turned" "_law_turned" (defArgs s__law_turned) (defBody s__law_turned) (defScope s__law_turned) [] [] f fd) : FnG P w K mg base CX0 1 f fd ["hand", "saying"] (spD K sp__law_turned) := by
  refine fn_d Fu sc__law_turned ar__law_turned (fun cdv A0 outer s0 H0 E0' hr => ⟨_, _,
      (db_cons (ds_if (dt_w (dw_and (dt_cmp (op_eqK K hr.units) ro_eq (de_ixK K (de_var 1) de_int) de_str (nomark _)) (dw_and1 (dt_cmp (op_inK K) (ro_in false) (de_ixK K (de_ixK K (de_var 1) de_int) de_int) (de_tup (da_cons de_str (da_cons de_str da_nil))) (by rfl)))))
        (db_cons (ds_set 2 sc__law_turned.nd (de_if (dt_cmp (op_eqK K hr.units) ro_eq (de_ixK K (de_ixK K (de_var 1) de_int) de_int) de_str (nomark _)) de_str de_str))
        (db_one (ds_ret (de_tup (da_cons (de_var 2) (da_cons (de_tup (da_cons de_str (da_cons (de_ixK K (de_ixK K (de_var 1) de_int) de_int) da_nil))) (da_cons (de_tup (da_cons de_str (da_cons (de_ixK K (de_ixK K (de_var 1) de_int) de_int) da_nil))) da_nil)))))))
        db_nil)
      (db_cons (ds_if (dt_cmp (op_inK K) (ro_in false) (de_ixK K (de_var 1) de_int) (de_tup (da_cons de_str (da_cons de_str da_nil))) (by rfl))
        (db_one (ds_ret (de_tup (da_cons (de_ixK K (de_var 1) de_int) (da_cons (de_ixK K (de_var 1) de_int) (da_cons (de_ixK K (de_var 1) de_int) da_nil))))))
        db_nil)
      (db_one (ds_ret (de_if (dt_cmp (op_neK K hr.units) ro_ne (de_ixK K (de_var 1) de_int) de_str (nomark _)) (de_tup (da_cons de_str (da_cons (de_tup (da_cons de_str (da_cons (de_var 1) da_nil))) da_nil))) (de_tup (da_cons de_str (da_cons (de_tup (da_cons de_str (da_cons (de_ixK K (de_var 1) de_int) (da_cons (de_ixK K (de_var 1) de_int) da_nil)))) da_nil)))))))),
      ?_⟩)
  all_goals (
    rintro ds S Q Ed ⟨t, c, s, rfl, hs, q⟩
    have st : ∀ (S : MS) (u : Sy), rd S (syD u) = syD u := fun S u => rd_pu (syD_pu u)
    have sz2 : ∀ n, n ≤ 5 → n ≤ sizeLine := fun n h => le_sz (by omega)
    cases s with
    | no s =>
      have neg : okD (D.str "not") = true := so_0
      cases s with
      | no x =>
        simp! [syD, st]
        repeat (refine And.intro (by first | assumption | rfl | (rw [sizeLine_eq] ; simp only [List.length_append, List.length_cons, List.length_nil, List.length_map, List.length_replicate, rep_len] ; omega) | (simp only [List.length_append, List.length_cons, List.length_nil, List.length_map, List.length_replicate, rep_len] ; omega) | omega | (rw [sizeLine_eq] ; omega)) ?_)
        exact outK.same (q (.no (.no (.no (.no x)))) hs (by simp only [syDep]; omega) fun o _ => by simp [soS])
      | an x y =>
        simp! [syD, st]
        repeat (refine And.intro (by first | assumption | rfl | (rw [sizeLine_eq] ; simp only [List.length_append, List.length_cons, List.length_nil, List.length_map, List.length_replicate, rep_len] ; omega) | (simp only [List.length_append, List.length_cons, List.length_nil, List.length_map, List.length_replicate, rep_len] ; omega) | omega | (rw [sizeLine_eq] ; omega)) ?_)
        exact outK.same (q (.or (.no x) (.no y)) hs (by simp only [syDep]; omega) fun o _ => by simp [soS])
      | or x y =>
        simp! [syD, st]
        repeat (refine And.intro (by first | assumption | rfl | (rw [sizeLine_eq] ; simp only [List.length_append, List.length_cons, List.length_nil, List.length_map, List.length_replicate, rep_len] ; omega) | (simp only [List.length_append, List.length_cons, List.length_nil, List.length_map, List.length_replicate, rep_len] ; omega) | omega | (rw [sizeLine_eq] ; omega)) ?_)
        exact outK.same (q (.an (.no x) (.no y)) hs (by simp only [syDep]; omega) fun o _ => by simp [soS])
      | at_ x y =>
        simp! [syD, st]
        repeat (refine And.intro (by first | assumption | rfl | (rw [sizeLine_eq] ; simp only [List.length_append, List.length_cons, List.length_nil, List.length_map, List.length_replicate, rep_len] ; omega) | (simp only [List.length_append, List.length_cons, List.length_nil, List.length_map, List.length_replicate, rep_len] ; omega) | omega | (rw [sizeLine_eq] ; omega)) ?_)
        exact outK.same (q (.no (.no (.no (.at_ x y)))) hs (by simp only [syDep]; omega) fun o _ => by simp [soS])
      | ah x y =>
        simp! [syD, st]
        repeat (refine And.intro (by first | assumption | rfl | (rw [sizeLine_eq] ; simp only [List.length_append, List.length_cons, List.length_nil, List.length_map, List.length_replicate, rep_len] ; omega) | (simp only [List.length_append, List.length_cons, List.length_nil, List.length_map, List.length_replicate, rep_len] ; omega) | omega | (rw [sizeLine_eq] ; omega)) ?_)
        exact outK.same (q (.no (.no (.no (.ah x y)))) hs (by simp only [syDep]; omega) fun o _ => by simp [soS])
      | nx x y =>
        simp! [syD, st]
        repeat (refine And.intro (by first | assumption | rfl | (rw [sizeLine_eq] ; simp only [List.length_append, List.length_cons, List.length_nil, List.length_map, List.length_replicate, rep_len] ; omega) | (simp only [List.length_append, List.length_cons, List.length_nil, List.length_map, List.length_replicate, rep_len] ; omega) | omega | (rw [sizeLine_eq] ; omega)) ?_)
        exact outK.same (q (.no (.no (.no (.nx x y)))) hs (by simp only [syDep]; omega) fun o _ => by simp [soS])
    | an x y =>
      simp! [syD, st]
      repeat (refine And.intro (by first | assumption | rfl | (rw [sizeLine_eq] ; simp only [List.length_append, List.length_cons, List.length_nil, List.length_map, List.length_replicate, rep_len] ; omega) | (simp only [List.length_append, List.length_cons, List.length_nil, List.length_map, List.length_replicate, rep_len] ; omega) | omega | (rw [sizeLine_eq] ; omega)) ?_)
      exact outK.same (q (.an y x) ⟨hs.2, hs.1⟩ (by simp only [syDep]; omega) fun o _ => by simp [soS, Bool.and_comm])
    | or x y =>
      simp! [syD, st]
      repeat (refine And.intro (by first | assumption | rfl | (rw [sizeLine_eq] ; simp only [List.length_append, List.length_cons, List.length_nil, List.length_map, List.length_replicate, rep_len] ; omega) | (simp only [List.length_append, List.length_cons, List.length_nil, List.length_map, List.length_replicate, rep_len] ; omega) | omega | (rw [sizeLine_eq] ; omega)) ?_)
      exact outK.same (q (.or y x) ⟨hs.2, hs.1⟩ (by simp only [syDep]; omega) fun o _ => by simp [soS, Bool.or_comm])
    | at_ x y =>
      simp! [syD, st]
      repeat (refine And.intro (by first | assumption | rfl | (rw [sizeLine_eq] ; simp only [List.length_append, List.length_cons, List.length_nil, List.length_map, List.length_replicate, rep_len] ; omega) | (simp only [List.length_append, List.length_cons, List.length_nil, List.length_map, List.length_replicate, rep_len] ; omega) | omega | (rw [sizeLine_eq] ; omega)) ?_)
      exact outK.same (q (.no (.no (.at_ x y))) hs (by simp only [syDep]; omega) fun o _ => by simp [soS])
    | nx x y =>
      simp! [syD, st]
      repeat (refine And.intro (by first | assumption | rfl | (rw [sizeLine_eq] ; simp only [List.length_append, List.length_cons, List.length_nil, List.length_map, List.length_replicate, rep_len] ; omega) | (simp only [List.length_append, List.length_cons, List.length_nil, List.length_map, List.length_replicate, rep_len] ; omega) | omega | (rw [sizeLine_eq] ; omega)) ?_)
      exact outK.same (q (.no (.no (.nx x y))) hs (by simp only [syDep]; omega) fun o _ => by simp [soS])
    | ah x y =>
      simp! [syD, st]
      repeat (refine And.intro (by first | assumption | rfl | (rw [sizeLine_eq] ; simp only [List.length_append, List.length_cons, List.length_nil, List.length_map, List.length_replicate, rep_len] ; omega) | (simp only [List.length_append, List.length_cons, List.length_nil, List.length_map, List.length_replicate, rep_len] ; omega) | omega | (rw [sizeLine_eq] ; omega)) ?_)
      refine outK.same (q (.no (.ah y x)) ⟨hs.2.1, hs.1, Ne.symm hs.2.2⟩ (by simp only [syDep]; omega) fun o ho => ?_)
      have mx := permN_of ho hs.1
      have my := permN_of ho hs.2.1
      have ne : o.idxOf x ≠ o.idxOf y := fun e => hs.2.2 (idxOf_inj mx my e)
      show (!decide ((o.idxOf y : Int) < o.idxOf x)) = decide ((o.idxOf x : Int) < o.idxOf y)
      rw [← decide_not, decide_eq_decide]
      omega)
theorem D__law_turned (A : Al K mg) : Def P w K mg base CX0 1 "_law_turned" ["hand", "saying"] sp__law_turned := by
  obtain ⟨f, fd, Fu, hm, hb⟩ := fu__law_turned A
  exact ⟨f, fd, O__law_turned A Fu, hm, Fu.kp, hb⟩
end
theorem sc_is_within : FnScope ["thing", "low", "high"] ["thing", "low", "high"] (defScope s_is_within) := ⟨rfl, rfl, rfl, by decide +kernel, rfl, by decide +kernel, by decide +kernel⟩
theorem ar_is_within : ∀ ds S Q E, sp_is_within ds S Q E → ds.length = 3 := by
  rintro ds S Q E h
  simp only [sp_is_within] at h
  obtain ⟨_, h⟩ := h
  repeat (first | (obtain ⟨rfl, _⟩ := h; rfl) | (obtain ⟨_, h⟩ := h))
section
variable {P : Program} {w : World} {K : PySem.W.Frag} {mg : Str → Option Value} {base : Heap}
theorem O_is_within (A : Al K mg) {f : Addr} {fd : FuncData} (Fu : FunD K "is_within" "is_within" (defArgs s_is_within) (defBody s_is_within) (defScope s_is_within) [] [] f fd) : FnG P w K mg base CX0 2 f fd ["thing", "low", "high"] (spD K sp_is_within) := by
  refine fn_d Fu sc_is_within ar_is_within (fun cdv A0 outer s0 H0 E0' hr => ⟨_, _,
      (db_one (ds_ret (de_and (de_callK (D_is_integer A) (hr.mono (by omega)) pass0 rfl (da_cons (de_var 0) da_nil)) (de_one (de_ch op_le op_le ro_IB ro_IB (de_var 1) (de_var 0) (de_var 2)))))),
      ?_⟩)
  all_goals (
    rintro ds S Q Ed ⟨x, lo, hi, rfl, pl, q⟩
    simp! [sp_is_integer, rd_pl pl, pl]
    cases x <;> first | exact outK.same q | skip
    rename_i i
    simp! [isInt]
    refine ite_bl (fun h => ?_) (fun h => ?_) <;> simp only [isWithin, h, Bool.true_and, Bool.false_and] at q <;> exact outK.same q)
theorem D_is_within (A : Al K mg) : Def P w K mg base CX0 2 "is_within" ["thing", "low", "high"] sp_is_within := by
  obtain ⟨f, fd, Fu, hm, hb⟩ := fu_is_within A
  exact ⟨f, fd, O_is_within A Fu, hm, Fu.kp, hb⟩
end
theorem sc_is_bound : FnScope ["thing"] ["thing"] (defScope s_is_bound) := ⟨rfl, rfl, rfl, by decide +kernel, rfl, by decide +kernel, by decide +kernel⟩
theorem ar_is_bound : ∀ ds S Q E, sp_is_bound ds S Q E → ds.length = 1 := by
  rintro ds S Q E h
  simp only [sp_is_bound] at h
  obtain ⟨_, h⟩ := h
  repeat (first | (obtain ⟨rfl, _⟩ := h; rfl) | (obtain ⟨_, h⟩ := h))
section
variable {P : Program} {w : World} {K : PySem.W.Frag} {mg : Str → Option Value} {base : Heap}
theorem O_is_bound (A : Al K mg) {f : Addr} {fd : FuncData} (Fu : FunD K "is_bound" "is_bound" (defArgs s_is_bound) (defBody s_is_bound) (defScope s_is_bound) [] [] f fd) : FnG P w K mg base CX0 2 f fd ["thing"] (spD K sp_is_bound) := by
  refine fn_d Fu sc_is_bound ar_is_bound (fun cdv A0 outer s0 H0 E0' hr => ⟨_, _,
      (db_one (ds_ret (de_or (de_cmp op_isN ro_isN (de_var 0) de_non (nomark _)) (de_one (de_and (de_callK (D_is_integer A) (hr.mono (by omega)) pass0 rfl (da_cons (de_var 0) da_nil)) (de_one (de_ch op_le op_le ro_IB ro_IB (de_un un_neg ro_neg (de_gint rfl A.c_FARTHEST)) (de_var 0) (de_gint rfl A.c_FARTHEST)))))))),
      ?_⟩)
  all_goals (
    rintro ds S Q Ed ⟨d, rfl, hd, q⟩
    rcases hd with rfl | ⟨i, rfl, h1, h2⟩
    · simp! []
      exact outK.same q
    · simp! [sp_is_integer, isInt, decide_eq_true h1, decide_eq_true h2]
      exact outK.same q)
theorem D_is_bound (A : Al K mg) : Def P w K mg base CX0 2 "is_bound" ["thing"] sp_is_bound := by
  obtain ⟨f, fd, Fu, hm, hb⟩ := fu_is_bound A
  exact ⟨f, fd, O_is_bound A Fu, hm, Fu.kp, hb⟩
end
theorem sc_stands_first : FnScope ["book", "placed", "layer", "a", "b", "left", "one"] ["book", "placed", "layer"] (defScope s_stands_first) := ⟨rfl, rfl, rfl, by decide +kernel, rfl, by decide +kernel, by decide +kernel⟩
theorem ar_stands_first : ∀ ds S Q E, sp_stands_first ds S Q E → ds.length = 3 := by
  rintro ds S Q E h
  simp only [sp_stands_first] at h
  obtain ⟨_, h⟩ := h
  repeat (first | (obtain ⟨rfl, _⟩ := h; rfl) | (obtain ⟨_, h⟩ := h))
section
variable {P : Program} {w : World} {K : PySem.W.Frag} {mg : Str → Option Value} {base : Heap}
theorem O_stands_first (A : Al K mg) {f : Addr} {fd : FuncData} (Fu : FunD K "stands_first" "stands_first" (defArgs s_stands_first) (defBody s_stands_first) (defScope s_stands_first) [] [] f fd) : FnG P w K mg base CX0 2 f fd ["book", "placed", "layer"] (spD K sp_stands_first) := by
  refine fn_d Fu sc_stands_first ar_stands_first (fun cdv A0 outer s0 H0 E0' hr => ⟨_, _,
      (db_cons (ds_for (vs := [3, 4]) PassesOwn.never rfl (di_seqK K (de_fld K A.cls_Book A.na_Book_overs (de_var 0))) (dg_tupK K (n := 2) rfl (dgs_cons (dg_name (vs := [3, 4]) 3 (by decide) sc_stands_first.nd) (dgs_cons (dg_name (vs := [3, 4]) 4 (by decide) sc_stands_first.nd) dgs_nil)))
        (db_one (ds_if (dt_w (dw_and (dt_cmp (op_eqK K hr.units) ro_eq (de_var 3) (de_var 2) (nomark _)) (dw_and1 (dt_cmp (op_notInK K) (ro_in true) (de_var 4) (de_var 1) (by rfl)))))
          (db_one (ds_ret de_bl))
          db_nil)))
      (db_cons (ds_setLc false 5 [("one", 6)] rfl sc_stands_first.nd (di_range1 rfl A.b_range (da_cons (de_fld K A.cls_Book A.na_Book_count (de_var 0)) da_nil)) (blkOk_by (by kernel_rfl)) (fun _ _ _ _ _ => (dg_name (vs := [6]) 6 (by decide) sc_stands_first.nd)) (fun _ _ _ _ _ => (dts_one (dt_w (dw_and (dt_cmp (op_notInK K) (ro_in true) (de_var 6) (de_var 1) (by rfl)) (dw_and1 (dt_cmp (op_neK K hr.units) ro_ne (de_var 6) (de_var 2) (nomark _))))))) (fun _ _ _ _ _ => (de_var 6)))
      (db_one (ds_ret (de_not (de_cb (cr_anyK K rfl) roc_any rfl A.b_any (by decide +kernel) (da_cons (de_lc false [("one", 6)] rfl sc_stands_first.nd (di_seqK K (de_var 5)) (blkOk_by (by kernel_rfl)) (fun _ _ _ _ _ => (dg_name (vs := [6]) 6 (by decide) sc_stands_first.nd)) (fun _ _ _ _ _ => dts_nil) (fun _ _ _ _ _ => (de_callK (D_is_dated A) (hr.mono (by omega)) pass0 rfl (da_cons (de_var 0) (da_cons (de_var 6) (da_cons (de_var 2) da_nil)))))) da_nil))))))),
      ?_⟩)
  all_goals (
    rintro ds S Q Ed ⟨x, b, p, l, rfl, hx, hb, hz, hp, hl, q⟩
    obtain ⟨L, ex⟩ := hx
    simp! [ex, f_overs, f_count, D.obj.injEq]
    have fin : ∀ f, standsP b p l = f → outK Q (.bl f) S := fun f e => outK.same (e ▸ q)
    have hc := hb.1
    refine forW_n (fun i ρ S' => S' = S ∧ (b.overs.take i).any (overP p l) = false ∧ ∃ z1 z2, ρ = [some x, some (D.tup (List.map D.int p)), some (D.int l), z1, z2, none, none]) (fun _ _ _ _ => trivial) (fun i e ρ S' hd h N hN => ?hs) (fun ρ S' h => ?hd) ⟨rfl, rfl, none, none, rfl⟩
    case hs =>
      obtain ⟨rfl, hall, z1, z2, rfl⟩ := h
      obtain ⟨r, hr, rfl⟩ := map_get hd
      obtain ⟨u, v, rfl, _⟩ := hb.2.1.1 r (List.mem_of_getElem? hr)
      have step : (decide (u = l) && !decide (v ∈ p)) = false → N [some x, some (D.tup (List.map D.int p)), some (D.int l), some (.int u), some (.int v), none, none] S' := fun e => by
        refine hN _ _ ⟨rfl, ?_, _, _, rfl⟩
        rw [List.take_add_one, hr, List.any_append, hall, Option.toList_some, List.any_cons, List.any_nil]
        show (false || (decide (u = l) && !decide (v ∈ p) || false)) = false
        rw [e]
        rfl
      simp! [tupI]
      refine ite_bl (fun h1 => ite_bl (fun h2 => fin _ ?_) (fun h2 => step ?_)) (fun h1 => step ?_)
      · unfold standsP
        rw [show b.overs.any (overP p l) = true from List.any_eq_true.mpr ⟨_, List.mem_of_getElem? hr, by show (decide (u = l) && !decide (v ∈ p)) = true; rw [h1, h2]; rfl⟩]
        rfl
      · rw [h1, h2]; rfl
      · rw [h1]; rfl
    case hd =>
      obtain ⟨rfl, hall, z1, z2, rfl⟩ := h
      rw [List.length_map, List.take_length] at hall
      unfold standsP at fin
      rw [hall] at fin
      simp! [ex, f_overs, f_count, D.obj.injEq]
      refine ⟨by omega, by omega, ?_⟩
      refine compL_filter (fun d => d) (fun d => !inD d (p.map D.int) && !eqD d (.int l)) noG_any (le_sz (by rw [rangeD_length]; omega)) (fun d hd S2 sub N M hN hM => ?_) ?_
      · obtain ⟨y, hy, rfl⟩ := rangeD_mem hd
        simp! []
        have e : (!inD (D.int (0 + (y : Int))) (p.map D.int) && !eqD (D.int (0 + (y : Int))) (.int l)) = (!decide (0 + (y : Int) ∈ p) && !decide (0 + (y : Int) = l)) := by rw [inD_ints, eqD_int]
        rw [e] at hN hM
        refine ite_bl (fun h1 => ite_bl (fun h2 => hN ?_) (fun h2 => hM ?_)) (fun h1 => hM ?_)
        · rw [h1, h2]; rfl
        · rw [h1, h2]; rfl
        · rw [h1]; rfl
      rw [List.map_id', rangeD_ranI, List.filter_map, show (ranI b.count).filter ((fun d => !inD d (p.map D.int) && !eqD d (.int l)) ∘ D.int) = leftL b.count p l from List.filter_congr fun x _ => by
        show (!inD (.int x) (p.map D.int) && !eqD (.int x) (.int l)) = _
        rw [inD_ints, eqD_int]]
      have hll : (leftL b.count p l).length ≤ 16 := by
        have := List.length_filter_le (fun o => !decide (o ∈ p) && !decide (o = l)) (ranI b.count)
        rw [ranI_length] at this
        exact Nat.le_trans this (by omega)
      have hlr : ∀ x ∈ leftL b.count p l, 0 ≤ x ∧ x < b.count := fun x hx => (leftL_mem.mp hx).1
      generalize leftL b.count p l = left at fin hll hlr ⊢
      simp! []
      refine compAny (ds := left.map D.int) (fun d => match d with | .int o => ltD (lateOf b o) (earlyOf b l) | _ => false) noG_any (le_sz (by rw [List.length_map]; omega)) (fun d hd S2 sub N hN => ?_) ?_
      · obtain ⟨y, hy, rfl⟩ := List.mem_map.mp hd
        simp! []
        exact ⟨x, b, y, l, rfl, BkAt.sub ⟨L, ex⟩ sub, hb, hlr y hy, hl, hN⟩
      · rw [List.any_map]
        exact ⟨_, rfl, fin _ rfl⟩)
theorem D_stands_first (A : Al K mg) : Def P w K mg base CX0 2 "stands_first" ["book", "placed", "layer"] sp_stands_first := by
  obtain ⟨f, fd, Fu, hm, hb⟩ := fu_stands_first A
  exact ⟨f, fd, O_stands_first A Fu, hm, Fu.kp, hb⟩
end
theorem sc__law_some : FnScope ["hand", "items"] ["hand", "items"] (defScope s__law_some) := ⟨rfl, rfl, rfl, by decide +kernel, rfl, by decide +kernel, by decide +kernel⟩
theorem ar__law_some : ∀ ds S Q E, sp__law_some ds S Q E → ds.length = 2 := by
  rintro ds S Q E h
  simp only [sp__law_some] at h
  obtain ⟨_, h⟩ := h
  repeat (first | (obtain ⟨rfl, _⟩ := h; rfl) | (obtain ⟨_, h⟩ := h))
section
variable {P : Program} {w : World} {K : PySem.W.Frag} {mg : Str → Option Value} {base : Heap}
theorem O__law_some (A : Al K mg) {f : Addr} {fd : FuncData} (Fu : FunD K "_law_some" "_law_some" (defArgs s__law_some) (defBody s__law_some) (defScope s__law_some) [] [] f fd) : FnG P w K mg base CX0 2 f fd ["hand", "items"] (spD K sp__law_some) := by
  refine fn_d Fu sc__law_some ar__law_some (fun cdv A0 outer s0 H0 E0' hr => ⟨_, _,
      (db_one (ds_ret (de_ixK K (de_var 1) (de_callK (V__law_draw A) (hr.mono (by omega)) pass0 rfl (da_cons (de_var 0) (da_cons (de_cb (call_lenK K) roc_len rfl A.b_len (by decide +kernel) (da_cons (de_var 1) da_nil)) da_nil)))))),
      ?_⟩)
  all_goals (
    rintro ds S Q Ed ⟨t, xs, rfl, hs, hl, q⟩
    simp! [drawSp]
    refine ⟨hs, by omega, by omega, fun i h0 h1 => ?_⟩
    simp! [z_ix_lt h0 h1]
    exact outK.same (q _ (getD_mem (by omega))))
theorem D__law_some (A : Al K mg) : Def P w K mg base CX0 2 "_law_some" ["hand", "items"] sp__law_some := by
  obtain ⟨f, fd, Fu, hm, hb⟩ := fu__law_some A
  exact ⟨f, fd, O__law_some A Fu, hm, Fu.kp, hb⟩
end
theorem sc__law_shuffled : FnScope ["hand", "count", "left", "found"] ["hand", "count"] (defScope s__law_shuffled) := ⟨rfl, rfl, rfl, by decide +kernel, rfl, by decide +kernel, by decide +kernel⟩
theorem ar__law_shuffled : ∀ ds S Q E, sp__law_shuffled ds S Q E → ds.length = 2 := by
  rintro ds S Q E h
  simp only [sp__law_shuffled] at h
  obtain ⟨_, h⟩ := h
  repeat (first | (obtain ⟨rfl, _⟩ := h; rfl) | (obtain ⟨_, h⟩ := h))
section
variable {P : Program} {w : World} {K : PySem.W.Frag} {mg : Str → Option Value} {base : Heap}
theorem O__law_shuffled (A : Al K mg) {f : Addr} {fd : FuncData} (Fu : FunD K "_law_shuffled" "_law_shuffled" (defArgs s__law_shuffled) (defBody s__law_shuffled) (defScope s__law_shuffled) [] [] f fd) : FnG P w K mg base CX0 2 f fd ["hand", "count"] (spD K sp__law_shuffled) := by
  refine fn_d Fu sc__law_shuffled ar__law_shuffled (fun cdv A0 outer s0 H0 E0' hr => ⟨_, _,
      (db_cons (ds_par 2 3 rfl sc__law_shuffled.nd (by decide) (da_cons (de_listRg1 true rfl rfl A.b_list rfl A.b_range (de_var 1)) (da_cons (de_lst true da_nil) da_nil)))
      (db_cons (ds_while PassesOwn.never (dt_cmp op_gt ro_IB (de_cb (call_lenK K) roc_len rfl A.b_len (by decide +kernel) (da_cons (de_var 2) da_nil)) de_int (nomark _))
        (db_one (ds_expr (de_bmK K PySem.F.plainAttrs_list PySem.F.slot_list_append PySem.F.type_list_append mt_append rm_append (de_var 3) (da_cons (de_bmK K PySem.F.plainAttrs_list PySem.F.slot_list_pop PySem.F.type_list_pop mt_popAt rm_popAt (de_var 2) (da_cons (de_callK (V__law_draw A) (hr.mono (by omega)) pass0 rfl (da_cons (de_var 0) (da_cons (de_cb (call_lenK K) roc_len rfl A.b_len (by decide +kernel) (da_cons (de_var 2) da_nil)) da_nil))) da_nil)) da_nil)))))
      (db_one (ds_ret (de_ct (call_tupleK K) roc_tuple rfl A.b_tuple (by decide +kernel) (da_cons (de_var 3) da_nil)))))),
      ?_⟩)
  all_goals (
    rintro ds S Q Ed ⟨t, n, rfl, hs, hn, q⟩
    simp! [wPar]
    refine ⟨by unfold RgOk; omega, fun a ha => ⟨Nat.zero_le _, fun b hb => ?_⟩⟩
    have ba : b ≠ a := fun e => by
      rw [e, MS.set_same] at hb
      cases hb
    have ab : a ≠ b := Ne.symm ba
    rw [MS.set_ne ba] at hb
    have hset : ∀ x y z, ((S.set a x).set b y).set a z = (S.set a z).set b y := fun x y z => by rw [MS.set_comm ba, MS.set_set, MS.set_comm ab]
    have hset2 : ∀ x y z, ((S.set a x).set b y).set b z = (S.set a x).set b z := fun x y z => MS.set_set
    have ra : ∀ x y, rd ((S.set a (.lst x)).set b y) (.ref a) = .lst x := fun x y => by rw [rd_set_ne ab, z_rd_set]
    have rb : ∀ x y, rd ((S.set a x).set b (.lst y)) (.ref b) = .lst y := fun x y => z_rd_set
    have ga : ∀ x y, ((S.set a x).set b y) a = some x := fun x y => by rw [MS.set_ne ab, MS.set_same]
    have gt : ∀ x y, ((S.set a x).set b y) t = some (.opq (opq2 JH)) := fun x y => by
      rw [MS.set_ne (fun e => by rw [e, hb] at hs; cases hs), MS.set_ne (fun e => by rw [e, ha] at hs; cases hs)]
      exact hs
    refine ⟨fun k ρ S' => ∃ ls fs : List Int, ls.length = k ∧ permN n (fs ++ ls) ∧ ρ = [some (.ref t), some (.int n), some (.ref a), some (.ref b)] ∧ S' = (S.set a (.lst (ls.map D.int))).set b (.lst (fs.map D.int)), ⟨_, (List.range n.toNat).map fun (i : Nat) => (i : Int), [], rfl, List.Perm.refl _, rfl, ?_⟩, ?_⟩
    · rw [Int.sub_zero, show rangeD 0 n.toNat = ((List.range n.toNat).map fun (i : Nat) => (i : Int)).map D.int by simp [rangeD]]
      rfl
    · rintro k ρ S' ⟨ls, fs, hk, hp, rfl, rfl⟩
      simp! [ra, List.length_map]
      refine ite_bl (fun h => ?_) (fun h => ?_)
      · have h0 : 0 < ls.length := by have := of_decide_eq_true h; omega
        have hlen := permN_length hn.1 hp
        rw [List.length_append] at hlen
        simp! [ra, rb, drawSp]
        refine ⟨gt _ _, by omega, by omega, fun i h1 h2 => ?_⟩
        have hi : i.toNat < ls.length := by omega
        refine ⟨a, _, i, i.toNat, .int ls[i.toNat], rfl, rfl, ga _ _, by omega, by rw [List.getElem?_map, List.getElem?_eq_getElem hi]; rfl, le_sz (by rw [List.length_map]; omega), ?_⟩
        rw [hset, DL.map_eraseIdx]
        refine ⟨b, _, _, rfl, rfl, MS.set_same, lt_sz (by rw [List.length_map]; omega), ls.length - 1, by omega, ls.eraseIdx i.toNat, by rw [List.length_eraseIdx_of_lt hi], fs ++ [ls[i.toNat]], ?_, ?_⟩
        · refine List.Perm.trans ?_ hp
          rw [List.append_assoc]
          refine List.Perm.append_left fs ?_
          exact perm_erase hi
        · rw [hset2, List.map_append]
          rfl
      · have h0 : ls = [] := by
          have := of_decide_eq_false h
          exact List.length_eq_zero_iff.mp (by omega)
        subst h0
        simp! [rb]
        rw [List.append_nil] at hp
        exact outK.mk (fun z m hz => by
          rw [MS.set_ne (fun e => by rw [e, hb] at hz; cases hz), MS.set_ne (fun e => by rw [e, ha] at hz; cases hz)]
          exact hz) (q fs hp))
theorem D__law_shuffled (A : Al K mg) : Def P w K mg base CX0 2 "_law_shuffled" ["hand", "count"] sp__law_shuffled := by
  obtain ⟨f, fd, Fu, hm, hb⟩ := fu__law_shuffled A
  exact ⟨f, fd, O__law_shuffled A Fu, hm, Fu.kp, hb⟩
end
theorem sc__law_fitting : FnScope ["spec", "found", "turn", "longer_v", "done", "nexts", "one"] ["spec"] (defScope s__law_fitting) := ⟨rfl, rfl, rfl, by decide +kernel, rfl, by decide +kernel, by decide +kernel⟩
theorem ar__law_fitting : ∀ ds S Q E, sp__law_fitting ds S Q E → ds.length = 1 := by
  rintro ds S Q E h
  simp only [sp__law_fitting] at h
  obtain ⟨_, h⟩ := h
  repeat (first | (obtain ⟨rfl, _⟩ := h; rfl) | (obtain ⟨_, h⟩ := h))
section
variable {P : Program} {w : World} {K : PySem.W.Frag} {mg : Str → Option Value} {base : Heap}
theorem O__law_fitting (A : Al K mg) {f : Addr} {fd : FuncData} (Fu : FunD K "_law_fitting" "_law_fitting" (defArgs s__law_fitting) (defBody s__law_fitting) (defScope s__law_fitting) [] [] f fd) : FnG P w K mg base CX0 2 f fd ["spec"] (spD K sp__law_fitting) := by
  refine fn_d Fu sc__law_fitting ar__law_fitting (fun cdv A0 outer s0 H0 E0' hr => ⟨_, _,
      (db_cons (ds_set 1 sc__law_fitting.nd (de_lst false (da_cons (de_tup da_nil) da_nil)))
      (db_cons (ds_for (vs := [2]) PassesOwn.never rfl (di_range1 rfl A.b_range (da_cons (de_ixK K (de_var 0) de_int) da_nil)) (dg_name (vs := [2]) 2 (by decide) sc__law_fitting.nd)
        (db_cons (ds_set 3 sc__law_fitting.nd (de_lst true da_nil))
        (db_cons (ds_for (vs := [4]) PassesOwn.never rfl (di_seqK K (de_var 1)) (dg_name (vs := [4]) 4 (by decide) sc__law_fitting.nd)
          (db_cons (ds_setLc false 5 [("one", 6)] rfl sc__law_fitting.nd (di_range1 rfl A.b_range (da_cons (de_ixK K (de_var 0) de_int) da_nil)) (blkOk_by (by kernel_rfl)) (fun _ _ _ _ _ => (dg_name (vs := [6]) 6 (by decide) sc__law_fitting.nd)) (fun _ _ _ _ _ => (dts_one (dt_cmp (op_notInK K) (ro_in true) (de_var 6) (de_var 4) (by rfl)))) (fun _ _ _ _ _ => (de_var 6)))
          (db_one (ds_expr (de_bmK K PySem.F.plainAttrs_list PySem.F.slot_list_extend PySem.F.type_list_extend mt_extR rm_extend (de_var 3) (da_cons (de_lc false [("one", 6)] rfl sc__law_fitting.nd (di_seqK K (de_var 5)) (blkOk_by (by kernel_rfl)) (fun _ _ _ _ _ => (dg_name (vs := [6]) 6 (by decide) sc__law_fitting.nd)) (fun _ _ _ _ _ => (dts_one (dt_val (de_callK (D__law_can_go A) (hr.mono (by omega)) pass0 rfl (da_cons (de_var 0) (da_cons (de_var 4) (da_cons (de_var 6) da_nil))))))) (fun _ _ _ _ _ => (de_op (op_addK K) (ro_add false) (de_var 4) (de_tup (da_cons (de_var 6) da_nil))))) da_nil))))))
        (db_one (ds_set 1 sc__law_fitting.nd (de_varF 3))))))
      (db_one (ds_ret (de_var 1))))),
      ?_⟩)
  all_goals (
    rintro ds S Q Ed ⟨b, rfl, hb, hz, hc, q⟩
    have hb1 := hb.1
    have ll : ∀ k : Nat, k ≤ 6 → (lev b k).length ≤ 46656 := fun k hk => by
      have h : ∀ k, (lev b k).length ≤ 6 ^ k := fun k => by
        induction k with
        | zero => exact Nat.le_refl 1
        | succ k ih =>
          show ((lev b k).flatMap fun p => (nextL b p).map fun l => p ++ [l]).length ≤ 6 ^ k * 6
          rw [List.length_flatMap]
          refine Nat.le_trans (sum_le_mul (m := 6) fun p hp => ?_) (Nat.mul_le_mul_right _ ih)
          have := next_len (lev_good hb k p hp).1
          rw [List.length_map]
          omega
      exact Nat.le_trans (h k) (Nat.le_trans (Nat.pow_le_pow_right (by decide) hk) (by decide))
    simp! [specD]
    repeat (refine And.intro (by first | assumption | rfl | (rw [sizeLine_eq] ; simp only [List.length_append, List.length_cons, List.length_nil, List.length_map, List.length_replicate, rep_len] ; omega) | (simp only [List.length_append, List.length_cons, List.length_nil, List.length_map, List.length_replicate, rep_len] ; omega) | omega | (rw [sizeLine_eq] ; omega)) ?_)
    refine forW_n (fun i ρ S' => S' = S ∧ ∃ (z2 z3 z4 z5 z6 : Option D), ρ = [some (specD b), some (.lst ((lev b i).map tupI)), z2, z3, z4, z5, z6]) (fun _ _ _ _ => trivial) (fun i e ρ S' hd h N hN => ?hs) (fun ρ S' h => ?hd) ⟨rfl, _, _, _, _, _, rfl⟩
    case hd =>
      obtain ⟨rfl, z2, z3, z4, z5, z6, rfl⟩ := h
      simp! []
      rw [rangeD_length]
      exact outK.same q
    case hs =>
      obtain ⟨rfl, z2, z3, z4, z5, z6, rfl⟩ := h
      have hi6 : i < 6 := by
        have := (List.getElem?_eq_some_iff.mp hd).1
        rw [rangeD_length] at this
        omega
      have hli := ll i (by omega)
      have hli1 := ll (i + 1) (by omega)
      simp! [specD]
      refine ⟨Nat.zero_le _, fun a ha => ?_⟩
      refine forW_n (fun j ρ S2 => S2 = S'.set a (.lst ((((lev b i).take j).flatMap fun p => (nextL b p).map fun l => p ++ [l]).map tupI)) ∧ ∃ (z4 z5 z6 : Option D), ρ = [some (specD b), some (.lst ((lev b i).map tupI)), some e, some (.ref a), z4, z5, z6]) (fun _ _ _ _ => trivial) (fun j d ρ S2 hdj h M hM => ?hs) (fun ρ S2 h => ?hd) ⟨rfl, _, _, _, rfl⟩
      case hd =>
        obtain ⟨rfl, z4, z5, z6, rfl⟩ := h
        rw [List.length_map, List.take_length]
        simp! []
        refine ⟨_, MS.set_same, ?_⟩
        rw [MS.del_set ha]
        exact hN _ _ ⟨rfl, _, _, _, _, _, rfl⟩
      case hs =>
        obtain ⟨rfl, z4, z5, z6, rfl⟩ := h
        obtain ⟨o, ho, rfl⟩ := map_get hdj
        obtain ⟨hg, hol⟩ := lev_good hb i o (List.mem_of_getElem? ho)
        have hnl := next_len hg
        have tk : ((lev b i).take (j + 1)).flatMap (fun p => (nextL b p).map fun l => p ++ [l]) = ((lev b i).take j).flatMap (fun p => (nextL b p).map fun l => p ++ [l]) ++ (nextL b o).map fun l => o ++ [l] := by
          rw [List.take_add_one, ho, List.flatMap_append, Option.toList_some, List.flatMap_singleton]
        have hlen : (((lev b i).take (j + 1)).flatMap (fun p => (nextL b p).map fun l => p ++ [l])).length ≤ 46656 := by
          refine Nat.le_trans ?_ hli1
          show _ ≤ ((lev b i).flatMap fun p => (nextL b p).map fun l => p ++ [l]).length
          conv => rhs; rw [← List.take_append_drop (j + 1) (lev b i), List.flatMap_append, List.length_append]
          omega
        rw [tk, List.length_append, List.length_map] at hlen
        generalize ((lev b i).take j).flatMap (fun p => (nextL b p).map fun l => p ++ [l]) = fl at tk hlen ⊢
        simp! [specD]
        refine ⟨by omega, by omega, ?_⟩
        refine compL_filter (fun d => d) (fun d => !inD d (o.map D.int)) noG_any (le_sz (by rw [rangeD_length]; omega)) (fun d hd S2 sub N M' hN hM => ?_) ?_
        · obtain ⟨x, hx, rfl⟩ := rangeD_mem hd
          simp! [tupI]
          exact ite_bl (fun h => hN (by rw [inD_ints]; exact h)) (fun h => hM (by rw [inD_ints]; exact h))
        rw [List.map_id', rangeD_ranI, List.filter_map, show (ranI b.count).filter ((fun d => !inD d (o.map D.int)) ∘ D.int) = freeL b.count o from List.filter_congr fun x _ => by
          show (!inD (.int x) (o.map D.int)) = _
          rw [inD_ints]]
        have hfr : ∀ x ∈ freeL b.count o, 0 ≤ x ∧ x < b.count := fun x hx => ranI_mem.mp (List.mem_filter.mp hx).1
        have hfz : (freeL b.count o).length ≤ 16 := by
          have := free_len hg.1 hg.2.1
          omega
        simp! [z_rd_set]
        refine compL_filter (fun d => match d with | .int x => tupI (o ++ [x]) | _ => .non) (fun d => match d with | .int x => canL b o x | _ => false) noG_any (le_sz (by rw [List.length_map]; omega)) (fun d hd S2 sub N M' hN hM => ?_) ?_
        · obtain ⟨x, hx, rfl⟩ := List.mem_map.mp hd
          have hN : canL b o x = true → N (tupI (o ++ [x])) S2 := hN
          have hM : canL b o x = false → M' S2 := hM
          simp! []
          refine ⟨b, o, x, rfl, hb, hz, by omega, hfr x hx, ?_⟩
          simp! [tupI]
          refine ite_bl (fun h => ?_) (fun h => hM h)
          have hN := hN h
          have e9 : D.tup (o.map D.int ++ [D.int x]) = tupI (o ++ [x]) := by simp [tupI]
          rw [e9]
          exact ⟨le_sz (by decide), le_sz (by rw [List.length_map]; omega), hN⟩
        · rw [List.filter_map, List.map_map, show (freeL b.count o).filter ((fun d => match d with | .int x => canL b o x | _ => false) ∘ D.int) = nextL b o from rfl]
          have e8 : (nextL b o).map ((fun d => match d with | .int x => tupI (o ++ [x]) | _ => .non) ∘ D.int) = ((nextL b o).map fun x => o ++ [x]).map tupI := by
            rw [List.map_map]
            rfl
          rw [e8]
          refine ⟨_, _, rfl, MS.set_same, le_sz (by rw [List.length_map, List.length_map, List.length_map]; omega), ?_⟩
          rw [MS.set_set, ← List.map_append, ← tk]
          exact hM _ _ ⟨rfl, _, _, _, rfl⟩)
theorem D__law_fitting (A : Al K mg) : Def P w K mg base CX0 2 "_law_fitting" ["spec"] sp__law_fitting := by
  obtain ⟨f, fd, Fu, hm, hb⟩ := fu__law_fitting A
  exact ⟨f, fd, O__law_fitting A Fu, hm, Fu.kp, hb⟩
end
theorem sc_is_lot : FnScope ["thing", "many", "one", "other"] ["thing", "many"] (defScope s_is_lot) := ⟨rfl, rfl, rfl, by decide +kernel, rfl, by decide +kernel, by decide +kernel⟩
theorem ar_is_lot : ∀ ds S Q E, sp_is_lot ds S Q E → ds.length = 2 := by
  rintro ds S Q E h
  simp only [sp_is_lot] at h
  obtain ⟨_, h⟩ := h
  repeat (first | (obtain ⟨rfl, _⟩ := h; rfl) | (obtain ⟨_, h⟩ := h))
section
variable {P : Program} {w : World} {K : PySem.W.Frag} {mg : Str → Option Value} {base : Heap}
theorem O_is_lot (A : Al K mg) {f : Addr} {fd : FuncData} (Fu : FunD K "is_lot" "is_lot" (defArgs s_is_lot) (defBody s_is_lot) (defScope s_is_lot) [] [] f fd) : FnG P w K mg base CX0 3 f fd ["thing", "many"] (spD K sp_is_lot) := by
  refine fn_d Fu sc_is_lot ar_is_lot (fun cdv A0 outer s0 H0 E0' hr => ⟨_, _,
      (db_cons (ds_if (dt_w (dw_or (dt_not (dt_val (de_isiK K .tuple rfl A.b_isinstance (de_var 0) A.b_tuple))) (dw_or1 (dt_not (dt_val (de_cb (cr_allK K rfl) roc_all rfl A.b_all (by decide +kernel) (da_cons (de_lc false [("one", 2)] rfl sc_is_lot.nd (di_seqK K (de_var 0)) (blkOk_by (by kernel_rfl)) (fun _ _ _ _ _ => (dg_name (vs := [2]) 2 (by decide) sc_is_lot.nd)) (fun _ _ _ _ _ => dts_nil) (fun _ _ _ _ _ => (de_callK (D_is_within A) (hr.mono (by omega)) pass0 rfl (da_cons (de_var 2) (da_cons de_int (da_cons (de_op op_sub ro_I0 (de_var 1) de_int) da_nil)))))) da_nil)))))))
        (db_one (ds_ret de_bl))
        db_nil)
      (db_one (ds_ret (de_cb (cr_allK K rfl) roc_all rfl A.b_all (by decide +kernel) (da_cons (de_lc false [("one", 2), ("other", 3)] rfl sc_is_lot.nd (di_zipK K rfl A.b_zip (da_cons (de_var 0) (da_cons (de_slK K false (de_var 0) (do_some de_int) do_none) da_nil))) (blkOk_by (by kernel_rfl)) (fun _ _ _ _ _ => (dg_tupK K (n := 2) rfl (dgs_cons (dg_name (vs := [2, 3]) 2 (by decide) sc_is_lot.nd) (dgs_cons (dg_name (vs := [2, 3]) 3 (by decide) sc_is_lot.nd) dgs_nil)))) (fun _ _ _ _ _ => dts_nil) (fun _ _ _ _ _ => (de_cmp op_lt ro_IB (de_var 2) (de_var 3) (nomark _)))) da_nil))))),
      ?_⟩)
  all_goals (
    rintro ds S Q Ed ⟨r, many, rfl, hz, ⟨hp, hm⟩, q⟩
    simp! []
    refine compAllT noG_any (le_sz (by rw [List.length_map]; omega)) (fun d hd S' sub N hN => ?_) ?_
    · obtain ⟨i, hi, rfl⟩ := List.mem_map.mp hd
      have := hm i hi
      simp! [sp_is_within, isWithin, decide_eq_true this.1, decide_eq_true (show i ≤ many - 1 by omega)]
      exact hN
    · simp! [cutD_from (show (0 : Int) ≤ 1 by decide)]
      refine compAllT noG_any (le_sz (by rw [zipD_length, List.length_map]; omega)) (fun d hd S' sub N hN => ?_) (outK.same q)
      obtain ⟨i, h1, h2, rfl⟩ := zipD_mem hd
      rw [List.length_map] at h1
      rw [List.length_drop, List.length_map] at h2
      have h3 : i + 1 < r.length := by have : (1 : Int).toNat = 1 := rfl; omega
      have e1 : (r.map D.int).getD i .non = .int r[i] := by
        rw [List.getD_eq_getElem?_getD, List.getElem?_map, List.getElem?_eq_getElem h1]; rfl
      have e2 : ((r.map D.int).drop (Int.toNat 1)).getD i .non = .int r[i + 1] := by
        rw [List.getD_eq_getElem?_getD, List.getElem?_drop, show Int.toNat 1 + i = i + 1 from by show 1 + i = i + 1; omega, List.getElem?_map, List.getElem?_eq_getElem h3]; rfl
      rw [e1, e2]
      have := List.pairwise_iff_getElem.mp hp i (i + 1) h1 h3 (by omega)
      simp! [decide_eq_true this]
      exact hN)
theorem D_is_lot (A : Al K mg) : Def P w K mg base CX0 3 "is_lot" ["thing", "many"] sp_is_lot := by
  obtain ⟨f, fd, Fu, hm, hb⟩ := fu_is_lot A
  exact ⟨f, fd, O_is_lot A Fu, hm, Fu.kp, hb⟩
end
theorem sc_is_pair : FnScope ["count", "thing", "one"] ["count", "thing"] (defScope s_is_pair) := ⟨rfl, rfl, rfl, by decide +kernel, rfl, by decide +kernel, by decide +kernel⟩
theorem ar_is_pair : ∀ ds S Q E, sp_is_pair ds S Q E → ds.length = 2 := by
  rintro ds S Q E h
  simp only [sp_is_pair] at h
  obtain ⟨_, h⟩ := h
  repeat (first | (obtain ⟨rfl, _⟩ := h; rfl) | (obtain ⟨_, h⟩ := h))
section
variable {P : Program} {w : World} {K : PySem.W.Frag} {mg : Str → Option Value} {base : Heap}
theorem O_is_pair (A : Al K mg) {f : Addr} {fd : FuncData} (Fu : FunD K "is_pair" "is_pair" (defArgs s_is_pair) (defBody s_is_pair) (defScope s_is_pair) [] [] f fd) : FnG P w K mg base CX0 3 f fd ["count", "thing"] (spD K sp_is_pair) := by
  refine fn_d Fu sc_is_pair ar_is_pair (fun cdv A0 outer s0 H0 E0' hr => ⟨_, _,
      (db_cons (ds_if (dt_w (dw_or (dt_not (dt_val (de_callK (D_is_tuple A) (hr.mono (by omega)) pass0 rfl (da_cons (de_var 1) (da_cons de_int (da_cons de_int da_nil)))))) (dw_or1 (dt_not (dt_val (de_cb (cr_allK K rfl) roc_all rfl A.b_all (by decide +kernel) (da_cons (de_lc false [("one", 2)] rfl sc_is_pair.nd (di_seqK K (de_var 1)) (blkOk_by (by kernel_rfl)) (fun _ _ _ _ _ => (dg_name (vs := [2]) 2 (by decide) sc_is_pair.nd)) (fun _ _ _ _ _ => dts_nil) (fun _ _ _ _ _ => (de_callK (D_is_within A) (hr.mono (by omega)) pass0 rfl (da_cons (de_var 2) (da_cons de_int (da_cons (de_op op_sub ro_I0 (de_var 0) de_int) da_nil)))))) da_nil)))))))
        (db_one (ds_ret de_bl))
        db_nil)
      (db_one (ds_ret (de_cmp (op_neK K hr.units) ro_ne (de_ixK K (de_var 1) de_int) (de_ixK K (de_var 1) de_int) (nomark _))))),
      ?_⟩)
  all_goals (
    rintro ds S Q Ed ⟨c, y, z, rfl, py, pz, q⟩
    simp! [sp_is_tuple, isTup, List.length_cons, List.length_nil, show (0 : Int) + 1 + 1 = 2 from rfl]
    rw [if_neg (by simp)]
    refine compAll (fun d => isWithin d 0 (c - 1)) noG_any (le_sz (by simp)) (fun d hd S' sub N hN => ?_) ?_
    · have pd : pu d = true := by
        simp only [List.mem_cons, List.not_mem_nil, or_false] at hd
        rcases hd with rfl | rfl
        · exact py
        · exact pz
      simp! [sp_is_within, pl_of_pu pd]
      exact hN
    · simp! [rd_pu py, rd_pu pz]
      refine ite_bl (fun h => ?_) (fun h => ?_)
      · have : (isWithin y 0 (c - 1) && isWithin z 0 (c - 1) && !eqD y z) = false := by
          revert h
          cases isWithin y 0 (c - 1) <;> cases isWithin z 0 (c - 1) <;> simp
        rw [this] at q
        exact outK.same q
      · have h2 : isWithin y 0 (c - 1) = true ∧ isWithin z 0 (c - 1) = true := by
          revert h
          cases isWithin y 0 (c - 1) <;> cases isWithin z 0 (c - 1) <;> simp
        rw [h2.1, h2.2] at q
        cases y <;> first | exact absurd h2.1 Bool.false_ne_true | skip
        cases z <;> first | exact absurd h2.2 Bool.false_ne_true | skip
        simp! []
        exact outK.same (by simpa [eqD_int] using q))
theorem D_is_pair (A : Al K mg) : Def P w K mg base CX0 3 "is_pair" ["count", "thing"] sp_is_pair := by
  obtain ⟨f, fd, Fu, hm, hb⟩ := fu_is_pair A
  exact ⟨f, fd, O_is_pair A Fu, hm, Fu.kp, hb⟩
end
theorem sc_is_date : FnScope ["thing", "one"] ["thing"] (defScope s_is_date) := ⟨rfl, rfl, rfl, by decide +kernel, rfl, by decide +kernel, by decide +kernel⟩
theorem ar_is_date : ∀ ds S Q E, sp_is_date ds S Q E → ds.length = 1 := by
  rintro ds S Q E h
  simp only [sp_is_date] at h
  obtain ⟨_, h⟩ := h
  repeat (first | (obtain ⟨rfl, _⟩ := h; rfl) | (obtain ⟨_, h⟩ := h))
section
variable {P : Program} {w : World} {K : PySem.W.Frag} {mg : Str → Option Value} {base : Heap}
theorem O_is_date (A : Al K mg) {f : Addr} {fd : FuncData} (Fu : FunD K "is_date" "is_date" (defArgs s_is_date) (defBody s_is_date) (defScope s_is_date) [] [] f fd) : FnG P w K mg base CX0 3 f fd ["thing"] (spD K sp_is_date) := by
  refine fn_d Fu sc_is_date ar_is_date (fun cdv A0 outer s0 H0 E0' hr => ⟨_, _,
      (db_cons (ds_if (dt_w (dw_or (dt_not (dt_val (de_callK (D_is_tuple A) (hr.mono (by omega)) pass0 rfl (da_cons (de_var 0) (da_cons de_int (da_cons de_int da_nil)))))) (dw_or1 (dt_not (dt_val (de_cb (cr_allK K rfl) roc_all rfl A.b_all (by decide +kernel) (da_cons (de_lc false [("one", 1)] rfl sc_is_date.nd (di_seqK K (de_var 0)) (blkOk_by (by kernel_rfl)) (fun _ _ _ _ _ => (dg_name (vs := [1]) 1 (by decide) sc_is_date.nd)) (fun _ _ _ _ _ => dts_nil) (fun _ _ _ _ _ => (de_callK (D_is_bound A) (hr.mono (by omega)) pass0 rfl (da_cons (de_var 1) da_nil)))) da_nil)))))))
        (db_one (ds_ret de_bl))
        db_nil)
      (db_one (ds_ret (de_or (de_cmp (op_inK K) (ro_in false) de_non (de_var 0) (by rfl)) (de_one (de_cmp op_le ro_IB (de_ixK K (de_var 0) de_int) (de_ixK K (de_var 0) de_int) (nomark _))))))),
      ?_⟩)
  all_goals (
    rintro ds S Q Ed ⟨⟨x, y⟩, rfl, ⟨hx, hy, hxy⟩, q⟩
    simp! [sp_is_tuple, isTup, List.length_cons, List.length_nil, show (0 : Int) + 1 + 1 = 2 from rfl]
    rw [if_neg (by simp)]
    refine compAllT noG_any (le_sz (by simp)) (fun d hd S' sub N hN => ?_) ?_
    · have hb : bound d := by
        simp only [List.mem_cons, List.not_mem_nil, or_false] at hd
        rcases hd with rfl | rfl
        · exact hx
        · exact hy
      simp! [sp_is_bound]
      exact ⟨hb, hN⟩
    · rcases hx with rfl | ⟨i, rfl, h1, h2⟩ <;> rcases hy with rfl | ⟨j, rfl, h3, h4⟩
      · simp! [Bool.true_or, Bool.or_true]
        exact outK.same q
      · simp! [Bool.true_or, Bool.or_true]
        exact outK.same q
      · simp! [show eqD (.int i) .non = false from rfl, show eqD .non .non = true from rfl, Bool.true_or, Bool.or_true, Bool.false_or]
        exact outK.same q
      · simp! [show eqD (.int i) .non = false from rfl, show eqD (.int j) .non = false from rfl, Bool.or_self, Bool.false_or, decide_eq_true (hxy i j rfl rfl)]
        exact outK.same q)
theorem D_is_date (A : Al K mg) : Def P w K mg base CX0 3 "is_date" ["thing"] sp_is_date := by
  obtain ⟨f, fd, Fu, hm, hb⟩ := fu_is_date A
  exact ⟨f, fd, O_is_date A Fu, hm, Fu.kp, hb⟩
end
theorem sc_longer : FnScope ["book", "placed", "found", "layer", "kind"] ["book", "placed"] (defScope s_longer) := ⟨rfl, rfl, rfl, by decide +kernel, rfl, by decide +kernel, by decide +kernel⟩
theorem ar_longer : ∀ ds S Q E, sp_longer ds S Q E → ds.length = 2 := by
  rintro ds S Q E h
  simp only [sp_longer] at h
  obtain ⟨_, h⟩ := h
  repeat (first | (obtain ⟨rfl, _⟩ := h; rfl) | (obtain ⟨_, h⟩ := h))
section
variable {P : Program} {w : World} {K : PySem.W.Frag} {mg : Str → Option Value} {base : Heap}
theorem O_longer (A : Al K mg) {f : Addr} {fd : FuncData} (Fu : FunD K "longer" "longer" (defArgs s_longer) (defBody s_longer) (defScope s_longer) [] [] f fd) : FnG P w K mg base CX0 3 f fd ["book", "placed"] (spD K sp_longer) := by
  refine fn_d Fu sc_longer ar_longer (fun cdv A0 outer s0 H0 E0' hr => ⟨_, _,
      (db_cons (ds_set 2 sc_longer.nd (de_lst true da_nil))
      (db_cons (ds_for (vs := [3]) PassesOwn.never rfl (di_range1 rfl A.b_range (da_cons (de_fld K A.cls_Book A.na_Book_count (de_var 0)) da_nil)) (dg_name (vs := [3]) 3 (by decide) sc_longer.nd)
        (db_one (ds_if (dt_w (dw_and (dt_cmp (op_notInK K) (ro_in true) (de_var 3) (de_var 1) (by rfl)) (dw_and1 (dt_val (de_callK (D_stands_first A) (hr.mono (by omega)) pass0 rfl (da_cons (de_var 0) (da_cons (de_var 1) (da_cons (de_var 3) da_nil))))))))
          (db_one (ds_if (dt_val (de_cb (cr_allK K rfl) roc_all rfl A.b_all (by decide +kernel) (da_cons (de_lc false [("kind", 4)] rfl sc_longer.nd (di_seqK K (de_fld K A.cls_Book A.na_Book_kinds (de_var 0))) (blkOk_by (by kernel_rfl)) (fun _ _ _ _ _ => (dg_name (vs := [4]) 4 (by decide) sc_longer.nd)) (fun _ _ _ _ _ => dts_nil) (fun _ _ _ _ _ => (de_callK (D_is_unbroken A) (hr.mono (by omega)) pass0 rfl (da_cons (de_var 4) (da_cons (de_var 1) (da_cons (de_var 3) da_nil)))))) da_nil)))
            (db_one (ds_expr (de_bmK K PySem.F.plainAttrs_list PySem.F.slot_list_append PySem.F.type_list_append mt_append rm_append (de_var 2) (da_cons (de_op (op_addK K) (ro_add false) (de_var 1) (de_tup (da_cons (de_var 3) da_nil))) da_nil))))
            db_nil))
          db_nil)))
      (db_one (ds_ret (de_varF 2))))),
      ?_⟩)
  all_goals (
    rintro ds S Q Ed ⟨x, b, p, rfl, hx, hb, hz, hg, hp, q⟩
    obtain ⟨L, ex⟩ := hx
    have hc := hb.1
    simp! [ex, f_count, D.obj.injEq]
    refine ⟨Nat.zero_le _, fun f hf => ⟨_, _, rd_sub (Sub.set hf) ex, _, f_count, _, rfl, by omega, by omega, ?_⟩⟩
    have exf : ∀ L', rd (S.set f (.lst L')) x = D.obj "Book" bkN (bkL b L) := fun L' => rd_sub (Sub.set hf) ex
    refine forW_n (fun i ρ S' => S' = S.set f (.lst ((((ranI b.count).take i).filter fun l => canL b p l && !decide (l ∈ p)).map fun l => tupI (p ++ [l]))) ∧ ∃ z3, ρ = [some x, some (D.tup (List.map D.int p)), some (D.ref f), z3, none]) (fun _ _ _ _ => trivial) (fun i d ρ S' hd h N hN => ?hs) (fun ρ S' h => ?hd) ⟨rfl, none, rfl⟩
    case hd =>
      obtain ⟨rfl, z3, rfl⟩ := h
      rw [rangeD_length, List.take_of_length_le (by rw [ranI_length]; omega)]
      simp! []
      refine ⟨_, MS.set_same, ?_⟩
      rw [MS.del_set hf]
      refine outK.same ?_
      unfold nextL freeL at q
      rw [List.filter_filter] at q
      exact q
    case hs =>
      obtain ⟨rfl, z3, rfl⟩ := h
      rw [rangeD_ranI] at hd
      obtain ⟨l, hl, rfl⟩ := map_get hd
      have hlr := ranI_mem.mp (List.mem_of_getElem? hl)
      have hi : i < 16 := by
        have := (List.getElem?_eq_some_iff.mp hl).1
        rw [ranI_length] at this
        omega
      have tk : ((ranI b.count).take (i + 1)).filter (fun l => canL b p l && !decide (l ∈ p)) = ((ranI b.count).take i).filter (fun l => canL b p l && !decide (l ∈ p)) ++ if (canL b p l && !decide (l ∈ p)) = true then [l] else [] := by
        rw [List.take_add_one, hl, List.filter_append, Option.toList_some, List.filter_cons, List.filter_nil]
      have hlen : (((ranI b.count).take i).filter (fun l => canL b p l && !decide (l ∈ p))).length ≤ 16 := by
        refine Nat.le_trans (List.length_filter_le _ _) ?_
        rw [List.length_take]
        omega
      generalize ((ranI b.count).take i).filter (fun l => canL b p l && !decide (l ∈ p)) = fl at tk hlen ⊢
      have stay : (canL b p l && !decide (l ∈ p)) = false → N [some x, some (D.tup (List.map D.int p)), some (D.ref f), some (.int l), none] (S.set f (.lst (fl.map fun l => tupI (p ++ [l])))) := fun e => by
        refine hN _ _ ⟨?_, _, rfl⟩
        rw [tk, e, if_neg Bool.false_ne_true, List.append_nil]
      simp! []
      refine ite_bl (fun h1 => ?_) (fun h1 => stay (by rw [h1, Bool.and_false]))
      have hlp : l ∉ p := by simpa using h1
      have ce := can_eq hb hg hlp hlr
      refine ⟨x, b, p, l, rfl, ⟨L, exf _⟩, hb, hz, hp, hlr, ?_⟩
      refine ⟨_, rfl, ite_bl (fun h2 => ?_) (fun h2 => stay (by rw [← ce, h2, Bool.false_and, Bool.false_and]))⟩
      simp! [exf, f_kinds, D.obj.injEq]
      refine compAllTo (ds := b.kinds.map tupI) (b.kinds.map fun k => unbP k p l) (by rw [List.length_map, List.length_map]) noG_any (le_sz (by rw [List.length_map]; have := hb.2.2.2.1; omega)) (fun i d v h3 h4 S2 sub N hN => ?_) ?_
      · obtain ⟨k, hk, rfl⟩ := map_get h3
        obtain ⟨k', hk', rfl⟩ := map_get h4
        rw [hk] at hk'
        cases hk'
        simp! []
        exact ⟨k, p, l, rfl, (hb.2.2.2.2 k (List.mem_of_getElem? hk)).2.1.2, hp, hN⟩
      rw [List.all_map, show b.kinds.all (id ∘ fun k => unbP k p l) = b.kinds.all fun k => unbP k p l from rfl]
      refine ⟨_, rfl, ite_bl (fun h3 => ?_) (fun h3 => stay (by rw [← ce, h3, Bool.and_false, Bool.false_and]))⟩
      simp! [z_rd_set]
      refine ⟨le_sz (by decide), le_sz (by rw [List.length_map]; omega), _, _, _, rfl, rfl, MS.set_same, ?_, ?_⟩
      · rw [List.length_map]
        exact Nat.lt_of_lt_of_le (show fl.length < 1000 by omega) (by rw [sizeLine_eq]; decide)
      rw [MS.set_set]
      refine hN _ _ ⟨?_, _, rfl⟩
      rw [tk, ← ce, h2, h3, h1, if_pos (show (true && true && true) = true from rfl), List.map_append]
      simp [tupI])
theorem D_longer (A : Al K mg) : Def P w K mg base CX0 3 "longer" ["book", "placed"] sp_longer := by
  obtain ⟨f, fd, Fu, hm, hb⟩ := fu_longer A
  exact ⟨f, fd, O_longer A Fu, hm, Fu.kp, hb⟩
end
theorem sc__law_spec : FnScope ["hand", "count", "hidden", "is_right", "overs", "kinds", "dates", "dear", "turn", "a", "b", "begin", "size", "lot", "layer", "time", "early", "late"] ["hand", "count"] (defScope s__law_spec) := ⟨rfl, rfl, rfl, by decide +kernel, rfl, by decide +kernel, by decide +kernel⟩
theorem ar__law_spec : ∀ ds S Q E, sp__law_spec ds S Q E → ds.length = 2 := by
  rintro ds S Q E h
  simp only [sp__law_spec] at h
  obtain ⟨_, h⟩ := h
  repeat (first | (obtain ⟨rfl, _⟩ := h; rfl) | (obtain ⟨_, h⟩ := h))
section
variable {P : Program} {w : World} {K : PySem.W.Frag} {mg : Str → Option Value} {base : Heap}
theorem O__law_spec (A : Al K mg) {f : Addr} {fd : FuncData} (Fu : FunD K "_law_spec" "_law_spec" (defArgs s__law_spec) (defBody s__law_spec) (defScope s__law_spec) [] [] f fd) : FnG P w K mg base CX0 3 f fd ["hand", "count"] (spD K sp__law_spec) := by
  refine fn_d Fu sc__law_spec ar__law_spec (fun cdv A0 outer s0 H0 E0' hr => ⟨_, _,
      (db_cons (ds_par 2 3 rfl sc__law_spec.nd (by decide) (da_cons (de_callK (D__law_shuffled A) (hr.mono (by omega)) pass0 rfl (da_cons (de_var 0) (da_cons (de_var 1) da_nil))) (da_cons (de_cmp op_gt ro_IB (de_callK (V__law_draw A) (hr.mono (by omega)) pass0 rfl (da_cons (de_var 0) (da_cons de_int da_nil))) de_int (nomark _)) da_nil)))
      (db_cons (ds_asg (vs := [4, 5, 6, 7]) (de_tup (da_cons (de_lst true da_nil) (da_cons (de_lst true da_nil) (da_cons (de_lst true da_nil) (da_cons (de_callK (V__law_draw A) (hr.mono (by omega)) pass0 rfl (da_cons (de_var 0) (da_cons de_int da_nil))) da_nil))))) (dg_tupK K (n := 4) rfl (dgs_cons (dg_name (vs := [4, 5, 6, 7]) 4 (by decide) sc__law_spec.nd) (dgs_cons (dg_name (vs := [4, 5, 6, 7]) 5 (by decide) sc__law_spec.nd) (dgs_cons (dg_name (vs := [4, 5, 6, 7]) 6 (by decide) sc__law_spec.nd) (dgs_cons (dg_name (vs := [4, 5, 6, 7]) 7 (by decide) sc__law_spec.nd) dgs_nil))))))
      (db_cons (ds_for (vs := [8]) PassesOwn.never rfl (di_range1 rfl A.b_range (da_cons (de_callK (V__law_draw A) (hr.mono (by omega)) pass0 rfl (da_cons (de_var 0) (da_cons (de_op (op_mulK K) (ro_mul false) de_int (de_var 1)) da_nil))) da_nil)) (dg_name (vs := [8]) 8 (by decide) sc__law_spec.nd)
        (db_cons (ds_par 9 10 rfl sc__law_spec.nd (by decide) (da_cons (de_callK (V__law_draw A) (hr.mono (by omega)) pass0 rfl (da_cons (de_var 0) (da_cons (de_var 1) da_nil))) (da_cons (de_callK (V__law_draw A) (hr.mono (by omega)) pass0 rfl (da_cons (de_var 0) (da_cons (de_var 1) da_nil))) da_nil)))
        (db_cons (ds_if (dt_w (dw_and (dt_val (de_var 3)) (dw_and1 (dt_cmp op_lt ro_IB (de_bmT K PySem.F.plainAttrs_tuple PySem.F.slot_tuple_index PySem.F.type_tuple_index (mt_indexT K) rm_indexT (de_var 2) (da_cons (de_var 9) da_nil)) (de_bmT K PySem.F.plainAttrs_tuple PySem.F.slot_tuple_index PySem.F.type_tuple_index (mt_indexT K) rm_indexT (de_var 2) (da_cons (de_var 10) da_nil)) (nomark _)))))
          (db_one (ds_par 9 10 rfl sc__law_spec.nd (by decide) (da_cons (de_var 10) (da_cons (de_var 9) da_nil))))
          db_nil)
        (db_one (ds_if (dt_w (dw_and (dt_cmp (op_neK K hr.units) ro_ne (de_var 9) (de_var 10) (nomark _)) (dw_and1 (dt_cmp (op_notInA K hr.units65) (ro_inA true) (de_tup (da_cons (de_var 9) (da_cons (de_var 10) da_nil))) (de_var 4) (by rfl)))))
          (db_one (ds_expr (de_bmK K PySem.F.plainAttrs_list PySem.F.slot_list_append PySem.F.type_list_append mt_append rm_append (de_var 4) (da_cons (de_tup (da_cons (de_var 9) (da_cons (de_var 10) da_nil))) da_nil))))
          db_nil)))))
      (db_cons (ds_for (vs := [8]) PassesOwn.never rfl (di_range1 rfl A.b_range (da_cons (de_callK (V__law_draw A) (hr.mono (by omega)) pass0 rfl (da_cons (de_var 0) (da_cons de_int da_nil))) da_nil)) (dg_name (vs := [8]) 8 (by decide) sc__law_spec.nd)
        (db_cons (ds_par 11 12 rfl sc__law_spec.nd (by decide) (da_cons (de_callK (V__law_draw A) (hr.mono (by omega)) pass0 rfl (da_cons (de_var 0) (da_cons (de_var 1) da_nil))) (da_cons (de_op (op_addK K) (ro_add false) de_int (de_callK (V__law_draw A) (hr.mono (by omega)) pass0 rfl (da_cons (de_var 0) (da_cons de_int da_nil)))) da_nil)))
        (db_cons (ds_set 13 sc__law_spec.nd (de_slK K false (de_var 2) (do_some (de_var 11)) (do_some (de_op (op_addK K) (ro_add false) (de_var 11) (de_var 12)))))
        (db_cons (ds_if (dt_w (dw_and (dt_not (dt_val (de_var 3))) (dw_and1 (dt_cmp (op_eqK K hr.units) ro_eq (de_callK (V__law_draw A) (hr.mono (by omega)) pass0 rfl (da_cons (de_var 0) (da_cons de_int da_nil))) de_int (nomark _)))))
          (db_one (ds_setLc false 13 [("layer", 14)] rfl sc__law_spec.nd (di_range1 rfl A.b_range (da_cons (de_var 1) da_nil)) (blkOk_by (by kernel_rfl)) (fun _ _ _ _ _ => (dg_name (vs := [14]) 14 (by decide) sc__law_spec.nd)) (fun _ _ _ _ _ => (dts_one (dt_cmp (op_eqK K hr.units) ro_eq (de_callK (V__law_draw A) (hr.mono (by omega)) pass0 rfl (da_cons (de_var 0) (da_cons de_int da_nil))) de_int (nomark _)))) (fun _ _ _ _ _ => (de_var 14))))
          db_nil)
        (db_one (ds_if (dt_cmp op_gt ro_IB (de_cb (call_lenK K) roc_len rfl A.b_len (by decide +kernel) (da_cons (de_var 13) da_nil)) de_int (nomark _))
          (db_one (ds_expr (de_bmK K PySem.F.plainAttrs_list PySem.F.slot_list_append PySem.F.type_list_append mt_append rm_append (de_var 5) (da_cons (de_ct (call_tupleK K) roc_tuple rfl A.b_tuple (by decide +kernel) (da_cons (de_cb (cr_sortedK K) (roc_sortedA false) rfl A.b_sorted (by decide +kernel) (da_cons (de_var 13) da_nil)) da_nil)) da_nil))))
          db_nil))))))
      (db_cons (ds_for (vs := [14]) PassesOwn.never rfl (di_range1 rfl A.b_range (da_cons (de_var 1) da_nil)) (dg_name (vs := [14]) 14 (by decide) sc__law_spec.nd)
        (db_cons (ds_set 15 sc__law_spec.nd (de_if (dt_val (de_var 3)) (de_op (op_mulK K) (ro_mul false) de_int (de_bmT K PySem.F.plainAttrs_tuple PySem.F.slot_tuple_index PySem.F.type_tuple_index (mt_indexT K) rm_indexT (de_var 2) (da_cons (de_var 14) da_nil))) (de_callK (V__law_draw A) (hr.mono (by omega)) pass0 rfl (da_cons (de_var 0) (da_cons (de_op (op_mulK K) (ro_mul false) de_int (de_var 1)) da_nil)))))
        (db_cons (ds_set 16 sc__law_spec.nd (de_if (dt_cmp op_lt ro_IB (de_callK (V__law_draw A) (hr.mono (by omega)) pass0 rfl (da_cons (de_var 0) (da_cons de_int da_nil))) (de_var 7) (nomark _)) (de_op op_sub ro_I0 (de_var 15) (de_callK (V__law_draw A) (hr.mono (by omega)) pass0 rfl (da_cons (de_var 0) (da_cons de_int da_nil)))) de_non))
        (db_cons (ds_set 17 sc__law_spec.nd (de_if (dt_cmp op_lt ro_IB (de_callK (V__law_draw A) (hr.mono (by omega)) pass0 rfl (da_cons (de_var 0) (da_cons de_int da_nil))) (de_var 7) (nomark _)) (de_op (op_addK K) (ro_add false) (de_var 15) (de_callK (V__law_draw A) (hr.mono (by omega)) pass0 rfl (da_cons (de_var 0) (da_cons de_int da_nil)))) de_non))
        (db_one (ds_expr (de_bmK K PySem.F.plainAttrs_list PySem.F.slot_list_append PySem.F.type_list_append mt_append rm_append (de_var 6) (da_cons (de_tup (da_cons (de_var 16) (da_cons (de_var 17) da_nil))) da_nil))))))))
      (db_one (ds_ret (de_tup (da_cons (de_var 1) (da_cons (de_ct (call_tupleK K) roc_tuple rfl A.b_tuple (by decide +kernel) (da_cons (de_cb (cr_sortedD K hr.units) (roc_sortedD false) rfl A.b_sorted (by decide +kernel) (da_cons (de_var 4) da_nil)) da_nil)) (da_cons (de_ct (call_tupleK K) roc_tuple rfl A.b_tuple (by decide +kernel) (da_cons (de_var 6) da_nil)) (da_cons (de_ct (call_tupleK K) roc_tuple rfl A.b_tuple (by decide +kernel) (da_cons (de_var 5) da_nil)) da_nil)))))))))))),
      ?_⟩)
  all_goals (
    rintro ds S Q Ed ⟨t, c, rfl, ht, hc, q⟩
    simp! [wPar, sp__law_shuffled, drawSp]
    refine ⟨ht, by omega, by omega, fun hidden hp => ?_⟩
    refine ⟨ht, by omega, by omega, fun r h1 h2 => ?_⟩
    refine ⟨Nat.zero_le _, fun a1 ha1 => ⟨Nat.zero_le _, fun a2 ha2 => ⟨Nat.zero_le _, fun a3 ha3 => ?_⟩⟩⟩
    have n12 : a2 ≠ a1 := fun e => by rw [e, MS.set_same] at ha2; cases ha2
    have n23 : a3 ≠ a2 := fun e => by rw [e, MS.set_same] at ha3; cases ha3
    have n13 : a3 ≠ a1 := fun e => by rw [e, MS.set_ne n12.symm, MS.set_same] at ha3; cases ha3
    have s2 : S a2 = none := by rw [MS.set_ne n12] at ha2; exact ha2
    have s3 : S a3 = none := by rw [MS.set_ne n23, MS.set_ne n13] at ha3; exact ha3
    clear ha2 ha3
    -- the store: overs at a1, kinds at a2, dates at a3
    obtain ⟨T, hT⟩ : ∃ T : List D → List D → List D → MS, T = fun x y z => ((S.set a1 (MO.lst x)).set a2 (MO.lst y)).set a3 (MO.lst z) := ⟨_, rfl⟩
    have eT : ((S.set a1 (MO.lst [])).set a2 (MO.lst [])).set a3 (MO.lst []) = T [] [] [] := by rw [hT]
    rw [eT]
    have tT : ∀ x y z, T x y z t = some (.opq (opq2 JH)) := fun x y z => by
      rw [hT]
      show ((S.set a1 (MO.lst x)).set a2 (MO.lst y)).set a3 (MO.lst z) t = _
      rw [MS.set_ne (MS.ne_of ht s3), MS.set_ne (MS.ne_of ht s2), MS.set_ne (MS.ne_of ht ha1)]
      exact ht
    have T1 : ∀ x y z, T x y z a1 = some (.lst x) := fun x y z => by
      rw [hT]
      show ((S.set a1 (MO.lst x)).set a2 (MO.lst y)).set a3 (MO.lst z) a1 = _
      rw [MS.set_ne n13.symm, MS.set_ne n12.symm, MS.set_same]
    have T2 : ∀ x y z, T x y z a2 = some (.lst y) := fun x y z => by
      rw [hT]
      show ((S.set a1 (MO.lst x)).set a2 (MO.lst y)).set a3 (MO.lst z) a2 = _
      rw [MS.set_ne n23.symm, MS.set_same]
    have T3 : ∀ x y z, T x y z a3 = some (.lst z) := fun x y z => by
      rw [hT]
      exact MS.set_same
    have W1 : ∀ x y z x', (T x y z).set a1 (.lst x') = T x' y z := fun x y z x' => by
      rw [hT]
      show (((S.set a1 (MO.lst x)).set a2 (MO.lst y)).set a3 (MO.lst z)).set a1 (.lst x') = ((S.set a1 (MO.lst x')).set a2 (MO.lst y)).set a3 (MO.lst z)
      rw [MS.set_comm n13, MS.set_comm n12, MS.set_set]
    have W2 : ∀ x y z x', (T x y z).set a2 (.lst x') = T x x' z := fun x y z x' => by
      rw [hT]
      show (((S.set a1 (MO.lst x)).set a2 (MO.lst y)).set a3 (MO.lst z)).set a2 (.lst x') = ((S.set a1 (MO.lst x)).set a2 (MO.lst x')).set a3 (MO.lst z)
      rw [MS.set_comm n23, MS.set_set]
    have W3 : ∀ x y z x', (T x y z).set a3 (.lst x') = T x y x' := fun x y z x' => by
      rw [hT]
      exact MS.set_set
    have sT : ∀ x y z, DL.Sub S (T x y z) := fun x y z => by
      rw [hT]
      exact ((Sub.set ha1).set2 s2).set2 s3
    clear hT eT
    refine ⟨tT _ _ _, by omega, by omega, fun dear h3 h4 => ⟨le_sz (by decide), by unfold CMul; omega, tT _ _ _, by omega, by omega, fun i5 h5 h6 => ⟨by omega, by omega, ?_⟩⟩⟩
    have hl := permN_length (by omega) hp
    refine forW_n (fun i ρ S' => ∃ (os : List (List Int)) (z8 z9 z10 z11 z12 z13 z14 z15 z16 z17 : Option D), S' = T (os.map tupI) [] [] ∧ os.length ≤ i ∧ (∀ r ∈ os, ∃ x y : Int, r = [x, y] ∧ x ≠ y ∧ (0 ≤ x ∧ x < c) ∧ (0 ≤ y ∧ y < c)) ∧ os.Nodup ∧
      ρ = [some (D.ref t), some (D.int c), some (D.tup (List.map D.int hidden)), some (D.bl (decide (0 < r))), some (D.ref a1), some (D.ref a2), some (D.ref a3), some (D.int dear), z8, z9, z10, z11, z12, z13, z14, z15, z16, z17]) (fun _ _ _ _ => trivial) (fun i d ρ S' hd h N hN => ?hs) (fun ρ S' h => ?hd) ⟨[], none, none, none, none, none, none, none, none, none, none, rfl, Nat.zero_le _, fun r h => (nomatch h), List.nodup_nil, rfl⟩
    case hs =>
      obtain ⟨os, z8, z9, z10, z11, z12, z13, z14, z15, z16, z17, rfl, ho1, ho2, ho3, rfl⟩ := h
      have hi : i < 32 := by
        have := (List.getElem?_eq_some_iff.mp hd).1
        rw [rangeD_length] at this
        omega
      simp! [wPar, drawSp]
      refine ⟨tT _ _ _, by omega, by omega, fun x hx1 hx2 => ⟨tT _ _ _, by omega, by omega, fun y hy1 hy2 => ?_⟩⟩
      have mx : x ∈ hidden := permN_of hp ⟨hx1, hx2⟩
      have my : y ∈ hidden := permN_of hp ⟨hy1, hy2⟩
      have fin : ∀ x y : Int, (0 ≤ x ∧ x < c) → (0 ≤ y ∧ y < c) → (if (!decide (x = y)) = true then 2 ≤ sizeLine ∧ wInA true (D.tup [D.int x, D.int y]) (rd (T (os.map tupI) [] []) (.ref a1)) (T (os.map tupI) [] []) fun d_4 S3 => ∃ k, d_4 = D.bl k ∧ if k = true then TyD "list" (rd S3 (D.ref a1)) ∧ 2 ≤ sizeLine ∧ wAppend (D.ref a1) [D.tup [D.int x, D.int y]] S3 fun d_5 S3 => N [some (D.ref t), some (D.int c), some (D.tup (List.map D.int hidden)), some (D.bl (decide (0 < r))), some (D.ref a1), some (D.ref a2), some (D.ref a3), some (D.int dear), some d, some (D.int x), some (D.int y), z11, z12, z13, z14, z15, z16, z17] S3 else N [some (D.ref t), some (D.int c), some (D.tup (List.map D.int hidden)), some (D.bl (decide (0 < r))), some (D.ref a1), some (D.ref a2), some (D.ref a3), some (D.int dear), some d, some (D.int x), some (D.int y), z11, z12, z13, z14, z15, z16, z17] S3 else N [some (D.ref t), some (D.int c), some (D.tup (List.map D.int hidden)), some (D.bl (decide (0 < r))), some (D.ref a1), some (D.ref a2), some (D.ref a3), some (D.int dear), some d, some (D.int x), some (D.int y), z11, z12, z13, z14, z15, z16, z17] (T (os.map tupI) [] [])) := fun x y hx hy => by
        have old : N [some (D.ref t), some (D.int c), some (D.tup (List.map D.int hidden)), some (D.bl (decide (0 < r))), some (D.ref a1), some (D.ref a2), some (D.ref a3), some (D.int dear), some d, some (D.int x), some (D.int y), z11, z12, z13, z14, z15, z16, z17] (T (os.map tupI) [] []) := hN _ _ ⟨os, _, _, _, _, _, _, _, _, _, _, rfl, by omega, ho2, ho3, rfl⟩
        refine ite_bl (fun hne => ⟨le_sz (by decide), ?_⟩) (fun _ => old)
        rw [rd_ref (T1 _ _ _)]
        refine ⟨_, .inl rfl, okL_row (n := 64) (by decide) [x, y], okL_mono (okL_lst (n := 1) fun d hd => by obtain ⟨r, _, rfl⟩ := List.mem_map.mp hd; exact okL_row (Nat.le_refl 1) r) (by decide), _, rfl, ite_bl (fun hk => ?_) (fun _ => old)⟩
        rw [rd_ref (T1 _ _ _)]
        refine ⟨rfl, le_sz (by decide), _, _, _, rfl, rfl, T1 _ _ _, ?_, ?_⟩
        · rw [List.length_map]
          exact Nat.lt_of_lt_of_le (show os.length < 1000 by omega) (by rw [sizeLine_eq]; decide)
        rw [W1, show (os.map tupI) ++ [D.tup [D.int x, D.int y]] = (os ++ [[x, y]]).map tupI by rw [List.map_append]; rfl]
        refine hN _ _ ⟨os ++ [[x, y]], _, _, _, _, _, _, _, _, _, _, rfl, by rw [List.length_append]; simp; omega, fun r hr => ?_, ?_, rfl⟩
        · rcases List.mem_append.mp hr with h | h
          · exact ho2 r h
          · rw [List.mem_singleton.mp h]
            exact ⟨x, y, rfl, by simpa using hne, hx, hy⟩
        · rw [List.nodup_append]
          refine ⟨ho3, by simp, fun a ha b hb e => ?_⟩
          rw [List.mem_singleton.mp hb] at e
          subst e
          have hk' : inD (tupI [x, y]) (os.map tupI) = false := by
            have h5 : (!inD (D.tup [D.int x, D.int y]) (os.map tupI)) = true := hk
            exact (Bool.not_eq_true' _).mp h5
          have hk2 : inD (tupI [x, y]) (os.map tupI) = true := List.any_eq_true.mpr ⟨tupI [x, y], List.mem_map.mpr ⟨_, ha, rfl⟩, eqD_refl (okL_row (n := 64) (by decide) _)⟩
          rw [hk'] at hk2
          cases hk2
      simp! [wIndexT]
      refine ite_bl (fun _ => ⟨⟨_, rfl⟩, hidden, rfl, mx, ⟨_, rfl⟩, hidden, rfl, my, ite_bl (fun _ => fin y x ⟨hy1, hy2⟩ ⟨hx1, hx2⟩) (fun _ => fin x y ⟨hx1, hx2⟩ ⟨hy1, hy2⟩)⟩) (fun _ => fin x y ⟨hx1, hx2⟩ ⟨hy1, hy2⟩)
    case hd =>
      obtain ⟨os, z8, z9, z10, z11, z12, z13, z14, z15, z16, z17, rfl, ho1, ho2, ho3, rfl⟩ := h
      rw [rangeD_length] at ho1
      simp! [drawSp]
      refine ⟨tT _ _ _, by decide, by decide, fun many hm1 hm2 => ⟨by omega, by omega, ?_⟩⟩
      refine forW_n (fun i ρ S' => ∃ (ks : List (List Int)) (z8 z9 z10 z11 z12 z13 z14 z15 z16 z17 : Option D), S' = T (os.map tupI) (ks.map tupI) [] ∧ ks.length ≤ i ∧ (∀ r ∈ ks, r.Pairwise (· < ·) ∧ (1 < r.length ∧ r.length ≤ 16) ∧ ∀ x ∈ r, 0 ≤ x ∧ x < c) ∧
        ρ = [some (D.ref t), some (D.int c), some (D.tup (List.map D.int hidden)), some (D.bl (decide (0 < r))), some (D.ref a1), some (D.ref a2), some (D.ref a3), some (D.int dear), z8, z9, z10, z11, z12, z13, z14, z15, z16, z17]) (fun _ _ _ _ => trivial) (fun i d ρ S' hd h N hN => ?hs) (fun ρ S' h => ?hd) ⟨[], _, _, _, _, _, _, _, _, _, _, rfl, Nat.zero_le _, fun r h => (nomatch h), rfl⟩
      case hs =>
        obtain ⟨ks, z8, z9, z10, z11, z12, z13, z14, z15, z16, z17, rfl, hk1, hk2, rfl⟩ := h
        have hi : i < 5 := by
          have := (List.getElem?_eq_some_iff.mp hd).1
          rw [rangeD_length] at this
          omega
        simp! [wPar, drawSp]
        refine ⟨tT _ _ _, by omega, by omega, fun x hx1 hx2 => ⟨tT _ _ _, by decide, by decide, fun y hy1 hy2 => ?_⟩⟩
        have fin : ∀ (ls : List Int) (L : D) (ρ : Rho), (∀ ks' : List (List Int), ks'.length ≤ i + 1 → (∀ r ∈ ks', r.Pairwise (· < ·) ∧ (1 < r.length ∧ r.length ≤ 16) ∧ ∀ x ∈ r, 0 ≤ x ∧ x < c) → N ρ (T (os.map tupI) (ks'.map tupI) [])) →
            (L = .tup (ls.map D.int) ∨ L = .lst (ls.map D.int)) → ls.Nodup → (∀ x ∈ ls, 0 ≤ x ∧ x < c) → ls.length ≤ 16 → 1 < ls.length →
            (TyD "list" (rd (T (os.map tupI) (ks.map tupI) []) (D.ref a2)) ∧ cSortedA false L (T (os.map tupI) (ks.map tupI) []) fun d_4 S2 => cTuple (rd S2 d_4) S2 fun d_5 S2 => wAppend (D.ref a2) [d_5] S2 fun d_6 S3 => N ρ S3) := fun ls L ρ hN hL hd hr h16 h1 => by
          have next : ∀ ns' : List Int, ns'.Perm ls → ns'.Pairwise (· ≤ ·) → newL false (ns'.map D.int) (T (os.map tupI) (ks.map tupI) []) fun d_4 S2 => cTuple (rd S2 d_4) S2 fun d_5 S2 => wAppend (D.ref a2) [d_5] S2 fun d_6 S3 => N ρ S3 := fun ns' hp' hs' => by
            rw [newL_f, rd_lst]
            refine ⟨_, _, _, rfl, rfl, T2 _ _ _, ?_, ?_⟩
            · rw [List.length_map]
              exact Nat.lt_of_lt_of_le (show ks.length < 1000 by omega) (by rw [sizeLine_eq]; decide)
            rw [W2, show (ks.map tupI) ++ [D.tup (ns'.map D.int)] = (ks ++ [ns']).map tupI by rw [List.map_append]; rfl]
            refine hN _ (by rw [List.length_append]; simp; omega) fun r hr' => ?_
            rcases List.mem_append.mp hr' with h | h
            · exact hk2 r h
            · rw [List.mem_singleton.mp h]
              have hnd : ns'.Nodup := hp'.nodup_iff.mpr hd
              refine ⟨?_, ⟨by rw [hp'.length_eq]; exact h1, by rw [hp'.length_eq]; exact h16⟩, fun x hx => hr x (hp'.mem_iff.mp hx)⟩
              exact (hs'.and hnd).imp fun ⟨h1, h2⟩ => by omega
          refine ⟨by rw [rd_ref (T2 _ _ _)]; rfl, ?_⟩
          rcases hL with rfl | rfl
          · exact ⟨ls, rfl, next⟩
          · exact ⟨ls, rfl, next⟩
        obtain ⟨ct, ec, hct⟩ : ∃ ls : List Int, DL.cutD (hidden.map D.int) (some x) (some (x + (2 + y))) = ls.map D.int ∧ ls.Sublist hidden := by
          unfold DL.cutD
          rw [← List.map_drop, ← List.map_take]
          exact ⟨_, rfl, (List.take_sublist _ _).trans (List.drop_sublist _ _)⟩
        rw [ec]
        have cr : ∀ x ∈ ct, 0 ≤ x ∧ x < c := fun x hx => permN_mem hp (hct.subset hx)
        have cl : ct.length ≤ 16 := by have := hct.length_le; omega
        have cn : ct.Nodup := hct.nodup (permN_nodup hp)
        refine ite_bl (fun _ => ⟨tT _ _ _, by decide, by decide, fun i6 h7 h8 => ite_bl (fun _ => ⟨by omega, by omega, ?_⟩) (fun _ => ite_bl (fun h => ?_) (fun _ => ?_))⟩) (fun _ => ite_bl (fun h => ?_) (fun _ => ?_))
        · refine compL_sub (fun d => d) noG_any (le_sz (by rw [rangeD_length]; omega)) (fun d hd S' sub N M hN hM => ?_) (fun left hleft => ?_)
          · obtain ⟨x, hx, rfl⟩ := rangeD_mem hd
            simp! []
            exact ⟨t, 2, rfl, sub _ _ (tT _ _ _), ⟨by decide, by decide⟩, fun j _ _ => by
              simp! []
              exact ite_bl (fun _ => hN) (fun _ => hM)⟩
          rw [List.map_id']
          obtain ⟨ls, hls, hln, rfl⟩ : ∃ ls : List Int, (∀ x ∈ ls, 0 ≤ x ∧ x < c) ∧ ls.Nodup ∧ left = ls.map D.int := by
            rw [show rangeD 0 c.toNat = ((List.range c.toNat).map fun (i : Nat) => (i : Int)).map D.int by simp [rangeD]] at hleft
            obtain ⟨ls, h1, h2⟩ := List.sublist_map_iff.mp hleft
            refine ⟨ls, fun x hx => ?_, h1.nodup (List.pairwise_map.mpr (List.Pairwise.imp (fun h e => by omega) List.pairwise_lt_range)), h2⟩
            obtain ⟨i, hi, rfl⟩ := List.mem_map.mp (h1.subset hx)
            have := List.mem_range.mp hi
            omega
          have hll : ls.length ≤ 16 := by
            have := hleft.length_le
            rw [List.length_map, rangeD_length] at this
            omega
          simp! []
          refine ite_bl (fun h => ?_) (fun _ => ?_)
          · exact fin ls _ _ (fun ks' h1 h2 => hN _ _ ⟨ks', _, _, _, _, _, _, _, _, _, _, rfl, h1, h2, rfl⟩) (.inr rfl) hln hls hll (by have := of_decide_eq_true h; rw [List.length_map] at this; omega)
          · exact hN _ _ ⟨ks, _, _, _, _, _, _, _, _, _, _, rfl, by omega, hk2, rfl⟩
        · exact fin ct _ _ (fun ks' h1 h2 => hN _ _ ⟨ks', _, _, _, _, _, _, _, _, _, _, rfl, h1, h2, rfl⟩) (.inl rfl) cn cr cl (by have := of_decide_eq_true h; rw [List.length_map] at this; omega)
        · exact hN _ _ ⟨ks, _, _, _, _, _, _, _, _, _, _, rfl, by omega, hk2, rfl⟩
        · exact fin ct _ _ (fun ks' h1 h2 => hN _ _ ⟨ks', _, _, _, _, _, _, _, _, _, _, rfl, h1, h2, rfl⟩) (.inl rfl) cn cr cl (by have := of_decide_eq_true h; rw [List.length_map] at this; omega)
        · exact hN _ _ ⟨ks, _, _, _, _, _, _, _, _, _, _, rfl, by omega, hk2, rfl⟩
      case hd =>
      obtain ⟨ks, z8, z9, z10, z11, z12, z13, z14, z15, z16, z17, rfl, hk1, hk2, rfl⟩ := h
      rw [rangeD_length] at hk1
      simp! []
      refine ⟨by omega, by omega, ?_⟩
      refine forW_n (fun i ρ S' => ∃ (dt : List (D × D)) (z14 z15 z16 z17 : Option D), S' = T (os.map tupI) (ks.map tupI) (dt.map fun p => .tup [p.1, p.2]) ∧ dt.length = i ∧ (∀ p ∈ dt, dateOk p) ∧
        ρ = [some (D.ref t), some (D.int c), some (D.tup (List.map D.int hidden)), some (D.bl (decide (0 < r))), some (D.ref a1), some (D.ref a2), some (D.ref a3), some (D.int dear), z8, z9, z10, z11, z12, z13, z14, z15, z16, z17]) (fun _ _ _ _ => trivial) (fun i d ρ S' hd h N hN => ?hs) (fun ρ S' h => ?hd) ⟨[], _, _, _, _, rfl, rfl, fun r h => (nomatch h), rfl⟩
      case hs =>
        obtain ⟨dt, z14, z15, z16, z17, rfl, hd1, hd2, rfl⟩ := h
        have hi : i < 16 := by
          have := (List.getElem?_eq_some_iff.mp hd).1
          rw [rangeD_length] at this
          omega
        obtain ⟨l, hl, rfl⟩ := rangeD_mem (List.mem_of_getElem? hd)
        have fin : ∀ (e f : D) (ρ : Rho), dateOk (e, f) → (∀ dt' : List (D × D), dt'.length = i + 1 → (∀ p ∈ dt', dateOk p) → N ρ (T (os.map tupI) (ks.map tupI) (dt'.map fun p => .tup [p.1, p.2]))) →
            (TyD "list" (rd (T (os.map tupI) (ks.map tupI) (dt.map fun p => .tup [p.1, p.2])) (D.ref a3)) ∧ 2 ≤ sizeLine ∧ wAppend (D.ref a3) [D.tup [e, f]] (T (os.map tupI) (ks.map tupI) (dt.map fun p => .tup [p.1, p.2])) fun d_6 S3 => N ρ S3) := fun e f ρ hef hN => by
          rw [rd_ref (T3 _ _ _)]
          refine ⟨rfl, le_sz (by decide), _, _, _, rfl, rfl, T3 _ _ _, ?_, ?_⟩
          · rw [List.length_map]
            exact Nat.lt_of_lt_of_le (show dt.length < 1000 by omega) (by rw [sizeLine_eq]; decide)
          rw [W3, show (dt.map fun p => D.tup [p.1, p.2]) ++ [D.tup [e, f]] = (dt ++ [(e, f)]).map fun p => D.tup [p.1, p.2] by rw [List.map_append]; rfl]
          refine hN _ (by rw [List.length_append, hd1]; rfl) fun p hp' => ?_
          rcases List.mem_append.mp hp' with h | h
          · exact hd2 p h
          · rw [List.mem_singleton.mp h]
            exact hef
        have hlm : (0 + (l : Int)) ∈ hidden := permN_of hp ⟨by omega, by omega⟩
        have hix : hidden.idxOf (0 + (l : Int)) < hidden.length := List.idxOf_lt_length_of_mem hlm
        simp! [wIndexT, drawSp]
        refine ite_bl (fun _ => ⟨⟨_, rfl⟩, hidden, rfl, hlm, by unfold CMul; omega, ?_⟩) (fun _ => ⟨by unfold CMul; omega, tT _ _ _, by omega, by omega, fun tm ht1 ht2 => ?_⟩)
        all_goals
          refine ⟨tT _ _ _, by decide, by decide, fun i6 h7 h8 => ite_bl (fun _ => ⟨tT _ _ _, by decide, by decide, fun e he1 he2 => ⟨tT _ _ _, by decide, by decide, fun i7 h9 h10 => ite_bl (fun _ => ⟨tT _ _ _, by decide, by decide, fun f hf1 hf2 => ?_⟩) (fun _ => ?_)⟩⟩) (fun _ => ⟨tT _ _ _, by decide, by decide, fun i7 h9 h10 => ite_bl (fun _ => ⟨tT _ _ _, by decide, by decide, fun f hf1 hf2 => ?_⟩) (fun _ => ?_)⟩)⟩
          · exact fin _ _ _ ⟨.inr ⟨_, rfl, by omega, by omega⟩, .inr ⟨_, rfl, by omega, by omega⟩, fun i j hi hj => by cases hi; cases hj; omega⟩ fun dt' h1 h2 => hN _ _ ⟨dt', _, _, _, _, rfl, h1, h2, rfl⟩
          · exact fin _ _ _ ⟨.inr ⟨_, rfl, by omega, by omega⟩, .inl rfl, fun i j hi hj => by cases hj⟩ fun dt' h1 h2 => hN _ _ ⟨dt', _, _, _, _, rfl, h1, h2, rfl⟩
          · exact fin _ _ _ ⟨.inl rfl, .inr ⟨_, rfl, by omega, by omega⟩, fun i j hi hj => by cases hi⟩ fun dt' h1 h2 => hN _ _ ⟨dt', _, _, _, _, rfl, h1, h2, rfl⟩
          · exact fin _ _ _ ⟨.inl rfl, .inl rfl, fun i j hi hj => by cases hi⟩ fun dt' h1 h2 => hN _ _ ⟨dt', _, _, _, _, rfl, h1, h2, rfl⟩
      case hd =>
      obtain ⟨dt, z14, z15, z16, z17, rfl, hd1, hd2, rfl⟩ := h
      rw [rangeD_length] at hd1
      simp! [rd_ref (T1 _ _ _), rd_ref (T2 _ _ _), rd_ref (T3 _ _ _)]
      refine ⟨_, .inl rfl, okSort_rows (fun r hr => ?_), fun d hd => ?_, ?_⟩
      · obtain ⟨x, y, rfl, _⟩ := ho2 r hr
        simp
      · obtain ⟨r, _, rfl⟩ := List.mem_map.mp hd
        exact okL_row (by decide) r
      rw [sortD_rows]
      simp! [rd_ref (T1 _ _ _), rd_ref (T2 _ _ _), rd_ref (T3 _ _ _)]
      have hpm : (os.mergeSort fun a b => decide (a ≤ b)).Perm os := List.mergeSort_perm _ _
      refine ⟨le_sz (by decide), outK.mk (sT _ _ _) (q ⟨c, os.mergeSort fun a b => decide (a ≤ b), dt, ks⟩ rfl ⟨hc, ⟨fun r hr => ho2 r (hpm.mem_iff.mp hr), ?_⟩, ⟨by show (dt.length : Int) = c; omega, hd2⟩, ⟨by show ks.length ≤ 16; omega, hk2⟩⟩ (by show (os.mergeSort fun a b => decide (a ≤ b)).length ≤ 1000; rw [hpm.length_eq]; omega))⟩
      have hnd : (os.mergeSort fun a b => decide (a ≤ b)).Nodup := hpm.nodup_iff.mpr ho3
      exact ((sorted_rows_le os).and hnd).imp fun ⟨h1, h2⟩ => by
        rcases List.le_iff_lt_or_eq.mp h1 with h | h
        · exact h
        · exact absurd h h2)
theorem D__law_spec (A : Al K mg) : Def P w K mg base CX0 3 "_law_spec" ["hand", "count"] sp__law_spec := by
  obtain ⟨f, fd, Fu, hm, hb⟩ := fu__law_spec A
  exact ⟨f, fd, O__law_spec A Fu, hm, Fu.kp, hb⟩
end
theorem sc_are_overs : FnScope ["count", "thing", "pair", "one", "other"] ["count", "thing"] (defScope s_are_overs) := ⟨rfl, rfl, rfl, by decide +kernel, rfl, by decide +kernel, by decide +kernel⟩
theorem ar_are_overs : ∀ ds S Q E, sp_are_overs ds S Q E → ds.length = 2 := by
  rintro ds S Q E h
  simp only [sp_are_overs] at h
  obtain ⟨_, h⟩ := h
  repeat (first | (obtain ⟨rfl, _⟩ := h; rfl) | (obtain ⟨_, h⟩ := h))
section
variable {P : Program} {w : World} {K : PySem.W.Frag} {mg : Str → Option Value} {base : Heap}
theorem O_are_overs (A : Al K mg) {f : Addr} {fd : FuncData} (Fu : FunD K "are_overs" "are_overs" (defArgs s_are_overs) (defBody s_are_overs) (defScope s_are_overs) [] [] f fd) : FnG P w K mg base CX0 4 f fd ["count", "thing"] (spD K sp_are_overs) := by
  refine fn_d Fu sc_are_overs ar_are_overs (fun cdv A0 outer s0 H0 E0' hr => ⟨_, _,
      (db_cons (ds_if (dt_w (dw_or (dt_not (dt_val (de_isiK K .tuple rfl A.b_isinstance (de_var 1) A.b_tuple))) (dw_or1 (dt_not (dt_val (de_cb (cr_allK K rfl) roc_all rfl A.b_all (by decide +kernel) (da_cons (de_lc false [("pair", 2)] rfl sc_are_overs.nd (di_seqK K (de_var 1)) (blkOk_by (by kernel_rfl)) (fun _ _ _ _ _ => (dg_name (vs := [2]) 2 (by decide) sc_are_overs.nd)) (fun _ _ _ _ _ => dts_nil) (fun _ _ _ _ _ => (de_callK (D_is_pair A) (hr.mono (by omega)) pass0 rfl (da_cons (de_var 0) (da_cons (de_var 2) da_nil))))) da_nil)))))))
        (db_one (ds_ret de_bl))
        db_nil)
      (db_one (ds_ret (de_cb (cr_allK K rfl) roc_all rfl A.b_all (by decide +kernel) (da_cons (de_lc false [("one", 3), ("other", 4)] rfl sc_are_overs.nd (di_zipK K rfl A.b_zip (da_cons (de_var 1) (da_cons (de_slK K false (de_var 1) (do_some de_int) do_none) da_nil))) (blkOk_by (by kernel_rfl)) (fun _ _ _ _ _ => (dg_tupK K (n := 2) rfl (dgs_cons (dg_name (vs := [3, 4]) 3 (by decide) sc_are_overs.nd) (dgs_cons (dg_name (vs := [3, 4]) 4 (by decide) sc_are_overs.nd) dgs_nil)))) (fun _ _ _ _ _ => dts_nil) (fun _ _ _ _ _ => (de_cmp (op_ltTK K hr.un1) ro_ltT (de_var 3) (de_var 4) (nomark _)))) da_nil))))),
      ?_⟩)
  all_goals (
    rintro ds S Q Ed ⟨c, rs, rfl, hz, hr, hp, q⟩
    simp! []
    refine compAllT noG_any (le_sz (by rw [List.length_map]; omega)) (fun d hd S' sub N hN => ?_) ?_
    · obtain ⟨r, hm, rfl⟩ := List.mem_map.mp hd
      obtain ⟨x, y, rfl, hne, hx, hy⟩ := hr r hm
      simp! [sp_is_pair, pu_int]
      rw [show isWithin (.int x) 0 (c - 1) = true by simp [isWithin]; omega, show isWithin (.int y) 0 (c - 1) = true by simp [isWithin]; omega, decide_eq_false hne]
      exact hN
    · simp! [cutD_from (show (0 : Int) ≤ 1 by decide)]
      refine compAllT noG_any (le_sz (by rw [zipD_length, List.length_map]; omega)) (fun d hd S' sub N hN => ?_) (outK.same q)
      obtain ⟨i, h1, h2, rfl⟩ := zipD_mem hd
      rw [List.length_map] at h1
      rw [List.length_drop, List.length_map] at h2
      have h3 : i + 1 < rs.length := by have : (1 : Int).toNat = 1 := rfl; omega
      have e1 : (rs.map tupI).getD i .non = tupI rs[i] := by
        rw [List.getD_eq_getElem?_getD, List.getElem?_map, List.getElem?_eq_getElem h1]; rfl
      have e2 : ((rs.map tupI).drop (Int.toNat 1)).getD i .non = tupI rs[i + 1] := by
        rw [List.getD_eq_getElem?_getD, List.getElem?_drop, show Int.toNat 1 + i = i + 1 from by show 1 + i = i + 1; omega, List.getElem?_map, List.getElem?_eq_getElem h3]; rfl
      rw [e1, e2]
      have := List.pairwise_iff_getElem.mp hp i (i + 1) h1 h3 (by omega)
      simp! [wLtT]
      refine ⟨_, rfl, _, rfl, ?_⟩
      rw [lexLt_eq, decide_eq_true this]
      exact hN)
theorem D_are_overs (A : Al K mg) : Def P w K mg base CX0 4 "are_overs" ["count", "thing"] sp_are_overs := by
  obtain ⟨f, fd, Fu, hm, hb⟩ := fu_are_overs A
  exact ⟨f, fd, O_are_overs A Fu, hm, Fu.kp, hb⟩
end
theorem sc_is_kind : FnScope ["count", "thing"] ["count", "thing"] (defScope s_is_kind) := ⟨rfl, rfl, rfl, by decide +kernel, rfl, by decide +kernel, by decide +kernel⟩
theorem ar_is_kind : ∀ ds S Q E, sp_is_kind ds S Q E → ds.length = 2 := by
  rintro ds S Q E h
  simp only [sp_is_kind] at h
  obtain ⟨_, h⟩ := h
  repeat (first | (obtain ⟨rfl, _⟩ := h; rfl) | (obtain ⟨_, h⟩ := h))
section
variable {P : Program} {w : World} {K : PySem.W.Frag} {mg : Str → Option Value} {base : Heap}
theorem O_is_kind (A : Al K mg) {f : Addr} {fd : FuncData} (Fu : FunD K "is_kind" "is_kind" (defArgs s_is_kind) (defBody s_is_kind) (defScope s_is_kind) [] [] f fd) : FnG P w K mg base CX0 4 f fd ["count", "thing"] (spD K sp_is_kind) := by
  refine fn_d Fu sc_is_kind ar_is_kind (fun cdv A0 outer s0 H0 E0' hr => ⟨_, _,
      (db_one (ds_ret (de_and (de_callK (D_is_lot A) (hr.mono (by omega)) pass0 rfl (da_cons (de_var 1) (da_cons (de_var 0) da_nil))) (de_one (de_cmp op_gt ro_IB (de_cb (call_lenK K) roc_len rfl A.b_len (by decide +kernel) (da_cons (de_var 1) da_nil)) de_int (nomark _)))))),
      ?_⟩)
  all_goals (
    rintro ds S Q Ed ⟨c, r, rfl, hz, ⟨hp, hm⟩, hl, q⟩
    simp! [sp_is_lot]
    refine ⟨r, rfl, hz, hp, hm, ?_⟩
    rw [List.length_map, decide_eq_true (by omega)]
    exact outK.same q)
theorem D_is_kind (A : Al K mg) : Def P w K mg base CX0 4 "is_kind" ["count", "thing"] sp_is_kind := by
  obtain ⟨f, fd, Fu, hm, hb⟩ := fu_is_kind A
  exact ⟨f, fd, O_is_kind A Fu, hm, Fu.kp, hb⟩
end
theorem sc_fitting : FnScope ["book", "found", "waiting", "placed"] ["book"] (defScope s_fitting) := ⟨rfl, rfl, rfl, by decide +kernel, rfl, by decide +kernel, by decide +kernel⟩
theorem ar_fitting : ∀ ds S Q E, sp_fitting ds S Q E → ds.length = 1 := by
  rintro ds S Q E h
  simp only [sp_fitting] at h
  obtain ⟨_, h⟩ := h
  repeat (first | (obtain ⟨rfl, _⟩ := h; rfl) | (obtain ⟨_, h⟩ := h))
section
variable {P : Program} {w : World} {K : PySem.W.Frag} {mg : Str → Option Value} {base : Heap}
theorem O_fitting (A : Al K mg) {f : Addr} {fd : FuncData} (Fu : FunD K "fitting" "fitting" (defArgs s_fitting) (defBody s_fitting) (defScope s_fitting) [] [] f fd) : FnG P w K mg base CX0 4 f fd ["book"] (spD K sp_fitting) := by
  refine fn_d Fu sc_fitting ar_fitting (fun cdv A0 outer s0 H0 E0' hr => ⟨_, _,
      (db_cons (ds_if (dt_cmp (op_dNotIn hr.units65) (ro_dIn true) de_str (de_fld K A.cls_Book A.na_Book_looked (de_var 0)) (by rfl))
        (db_cons (ds_par 1 2 rfl sc_fitting.nd (by decide) (da_cons (de_lst true da_nil) (da_cons (de_lst true (da_cons (de_tup da_nil) da_nil)) da_nil)))
        (db_cons (ds_while PassesOwn.never (dt_w (dw_and (dt_cmp op_gt ro_IB (de_cb (call_lenK K) roc_len rfl A.b_len (by decide +kernel) (da_cons (de_var 2) da_nil)) de_int (nomark _)) (dw_and1 (dt_cmp op_le ro_IB (de_cb (call_lenK K) roc_len rfl A.b_len (by decide +kernel) (da_cons (de_var 1) da_nil)) (de_gint rfl A.c_MOST_ORDERS) (nomark _)))))
          (db_cons (ds_set 3 sc_fitting.nd (de_bm0K K PySem.F.plainAttrs_list PySem.F.slot_list_pop PySem.F.type_list_pop mt_pop rm_pop (de_var 2)))
          (db_one (ds_if (dt_cmp (op_eqK K hr.units) ro_eq (de_cb (call_lenK K) roc_len rfl A.b_len (by decide +kernel) (da_cons (de_var 3) da_nil)) (de_fld K A.cls_Book A.na_Book_count (de_var 0)) (nomark _))
            (db_one (ds_expr (de_bmK K PySem.F.plainAttrs_list PySem.F.slot_list_append PySem.F.type_list_append mt_append rm_append (de_var 1) (da_cons (de_var 3) da_nil))))
            (db_one (ds_expr (de_bmK K PySem.F.plainAttrs_list PySem.F.slot_list_extend PySem.F.type_list_extend mt_extR rm_extend (de_var 2) (da_cons (de_revK K false (de_callK (D_longer A) (hr.mono (by omega)) pass0 rfl (da_cons (de_var 0) (da_cons (de_var 3) da_nil))) (de_un un_neg ro_neg de_int)) da_nil))))))))
        (db_one (ds_dput hr.units65 (de_fld K A.cls_Book A.na_Book_looked (de_var 0)) de_str (de_varF 1)))))
        db_nil)
      (db_cons (ds_if (dt_cmp op_gt ro_IB (de_cb (call_lenK K) roc_len rfl A.b_len (by decide +kernel) (da_cons (de_dget hr.units65 (de_fld K A.cls_Book A.na_Book_looked (de_var 0)) de_str (by intro _ _; rfl)) da_nil)) (de_gint rfl A.c_MOST_ORDERS) (nomark _))
        (db_one ds_never)
        db_nil)
      (db_one (ds_ret (de_dget hr.units65 (de_fld K A.cls_Book A.na_Book_looked (de_var 0)) de_str (by intro _ _; rfl)))))),
      ?_⟩)
  all_goals (
    rintro ds S Q Ed ⟨a, d, b, m, rfl, ⟨ha, hd⟩, hb, hc, hz, q⟩
    have hc1 := hb.1
    have fl := fits_len hb
    have hfac : fac b.count.toNat ≤ 720 := by
      have : b.count.toNat ≤ 6 := by omega
      match b.count.toNat, this with
      | 0, _ | 1, _ | 2, _ | 3, _ | 4, _ | 5, _ | 6, _ => decide
    have gd : ∀ (S' : MS) (R : KV2), S' d = some (memoM b true) → R (.lst ((fits b).map tupI)) S' → wDGet (rd S' (.ref d)) (D.str "fitting") S' R := fun S' R e r => ⟨_, _, .inr "fitting", _, rd_dicM e, rfl, rfl, r⟩
    have ad : a ≠ d := fun e => by
      rw [e, hd] at ha
      cases m <;> cases ha
    -- what is read at the end
    have rest : ∀ S', S' d = some (memoM b true) → S' a = some (.ins "Book" bkN (bkL b (.ref d))) → DL.Sub (S.set d (memoM b true)) S' → wDGet (rd S' (.ref d)) (D.str "fitting") S' fun d1 S3 => cLen (rd S3 d1) S3 fun d2 S2 => wIB (fun i j => decide (j < i)) (rd S2 d2) (D.int 5040) S2 fun d3 S3 => ∃ k, d3 = D.bl k ∧ if k = true then False else ∃ ns ds, rd S3 (D.ref a) = D.obj (Str.ofString "Book") ns ds ∧ ∃ x, fldD (Str.ofString "looked") ns ds = some x ∧ wDGet (rd S3 x) (D.str (Str.ofString "fitting")) S3 fun d S3 => outK Q d S3 := fun S' e1 e2 e3 => by
      refine gd _ _ e1 ?_
      simp! [List.length_map]
      rw [if_neg (by rw [decide_eq_true_eq]; omega)]
      exact ⟨_, _, rd_ins e2, _, f_looked, gd _ _ e1 (outK.mk e3 q)⟩
    cases m with
    | true =>
      have hd' : S d = some (.dic [.inr "fitting"] [.lst ((fits b).map tupI)]) := hd
      simp! [rd_ins ha, f_looked, f_count, D.obj.injEq]
      refine ⟨_, _, .inr "fitting", rd_dicM hd', rfl, _, rfl, ?_⟩
      rw [if_neg (by decide +kernel)]
      refine ⟨_, _, rd_ins ha, _, f_looked, rest S hd ha ?_⟩
      intro z mm e
      by_cases hz : z = d
      · rw [hz, MS.set_same] at e
        rw [hz, hd, ← e]
      · rw [MS.set_ne hz] at e
        exact e
    | false =>
      have hd' : S d = some (.dic [] []) := hd
      simp! [rd_ins ha, f_looked, f_count, D.obj.injEq]
      refine ⟨_, _, .inr "fitting", rd_dicM hd', rfl, _, rfl, ?_⟩
      rw [if_pos (by decide +kernel)]
      simp! [wPar]
      refine ⟨Nat.zero_le _, fun f hf => ⟨Nat.zero_le _, le_sz (by decide), fun w hw => ?_⟩⟩
      have wf : w ≠ f := fun e => by rw [e, MS.set_same] at hw; cases hw
      have sw : S w = none := by rw [MS.set_ne wf] at hw; exact hw
      obtain ⟨T, hT⟩ : ∃ T : List D → List D → MS, T = fun x y => (S.set f (MO.lst x)).set w (MO.lst y) := ⟨_, rfl⟩
      have eT : (S.set f (MO.lst [])).set w (MO.lst [D.tup []]) = T [] [.tup []] := by rw [hT]
      rw [eT]
      have Tf : ∀ x y, T x y f = some (.lst x) := fun x y => by rw [hT]; exact (MS.set_ne wf.symm).trans MS.set_same
      have Tw : ∀ x y, T x y w = some (.lst y) := fun x y => by rw [hT]; exact MS.set_same
      have Ta : ∀ x y, T x y a = some (.ins "Book" bkN (bkL b (.ref d))) := fun x y => by rw [hT]; exact MS.set_t (MS.set_t ha hf) (by rw [MS.set_ne wf]; exact sw)
      have Td : ∀ x y, T x y d = some (.dic [] []) := fun x y => by rw [hT]; exact MS.set_t (MS.set_t hd' hf) (by rw [MS.set_ne wf]; exact sw)
      have Wf : ∀ x y z, (T x y).set f (.lst z) = T z y := fun x y z => by
        rw [hT]
        show ((S.set f (MO.lst x)).set w (MO.lst y)).set f (.lst z) = _
        rw [MS.set_comm wf, MS.set_set]
      have Ww : ∀ x y z, (T x y).set w (.lst z) = T x z := fun x y z => by
        rw [hT]
        exact MS.set_set
      have Wd : ∀ x y M, ((T x y).del f).set d M = ((S.set d M).set w (.lst y)) := fun x y M => by
        rw [hT]
        show (((S.set f (MO.lst x)).set w (MO.lst y)).del f).set d M = _
        rw [MS.del_set_ne wf, MS.del_set hf, MS.set_comm (fun e => by rw [e, hd'] at sw; cases sw)]
      clear hT eT
      have inv0 : (([] : List (List Int)) ++ [([] : List Int)].reverse.flatMap fun p => ext b (b.count.toNat - p.length) p) = fits b := by
        rw [fits_ext]
        simp
      refine ⟨fun n ρ S' => ∃ (fs ws : List (List Int)) (z3 : Option D), ρ = [some (.ref a), some (.ref f), some (.ref w), z3] ∧ S' = T (fs.map tupI) (ws.map tupI) ∧ (fs ++ ws.reverse.flatMap fun p => ext b (b.count.toNat - p.length) p) = fits b ∧ (∀ p ∈ ws, Good b p ∧ p.length ≤ b.count.toNat) ∧ n = (ws.map fun p => nod b (b.count.toNat - p.length) p).sum ∧ n ≤ 300000, ⟨_, [], [[]], none, rfl, rfl, inv0, fun p hp => ?_, rfl, ?_⟩, ?_⟩
      · rw [List.mem_singleton.mp hp]
        exact ⟨good_nil b, Nat.zero_le _⟩
      · have h1 := nod_le hb hc b.count.toNat [] (good_nil b)
        have h2 : 8 ^ b.count.toNat ≤ 8 ^ 6 := Nat.pow_le_pow_right (by decide) (by omega)
        have h3 : 8 ^ 6 = 262144 := rfl
        simp only [List.map_cons, List.map_nil, List.sum_cons, List.sum_nil, List.length_nil, Nat.sub_zero]
        omega
      rintro n ρ S' ⟨fs, ws, z3, rfl, rfl, hfit, hgood, hn, hn3⟩
      have hfl : fs.length ≤ 720 := by
        have : fs.length ≤ (fits b).length := by rw [← hfit, List.length_append]; omega
        omega
      have hwl : ws.length ≤ 300000 := by
        have : ∀ l : List (List Int), l.length ≤ (l.map fun p => nod b (b.count.toNat - p.length) p).sum := fun l => by
          induction l with
          | nil => exact Nat.zero_le _
          | cons p l ih =>
            have := nod_pos b (b.count.toNat - p.length) p
            rw [List.map_cons, List.sum_cons, List.length_cons]
            omega
        have := this ws
        omega
      simp! [rd_ref (Tw _ _), rd_ref (Tf _ _), List.length_map]
      refine ite_bl (fun h0 => ?_) (fun h0 => ?_)
      · rw [if_pos (by rw [decide_eq_true_eq]; omega)]
        have h0 := of_decide_eq_true h0
        obtain ⟨ws, p, rfl⟩ : ∃ ws' p, ws = ws' ++ [p] := ⟨ws.dropLast, ws.getLast (fun e => by rw [e] at h0; simp at h0), (List.dropLast_concat_getLast _).symm⟩
        obtain ⟨hg, hpl⟩ := hgood p (by simp)
        have hgood' : ∀ p ∈ ws, Good b p ∧ p.length ≤ b.count.toNat := fun q hq => hgood q (List.mem_append_left _ hq)
        rw [List.reverse_append, List.reverse_singleton, List.singleton_append, List.flatMap_cons] at hfit
        rw [List.map_append, List.sum_append, List.map_singleton, List.sum_singleton] at hn
        rw [List.length_append, List.length_singleton] at hwl
        refine ⟨w, _, tupI p, rfl, rfl, Tw _ _, by rw [List.map_append]; simp, ?_⟩
        rw [Ww, show (List.map tupI (ws ++ [p])).dropLast = ws.map tupI by rw [List.map_append]; simp]
        simp! [tupI, rd_ins (Ta _ _), f_count, D.obj.injEq, List.length_map, rd_ref (Tf _ _), rd_ref (Tw _ _)]
        refine ite_bl (fun h => ?_) (fun h => ?_)
        · have hp0 : b.count.toNat - p.length = 0 := by have := of_decide_eq_true h; omega
          rw [hp0] at hfit hn
          refine ⟨_, _, _, rfl, rfl, Tf _ _, ?_, ?_⟩
          · rw [List.length_map]
            exact Nat.lt_of_lt_of_le (show fs.length < 1000 by omega) (by rw [sizeLine_eq]; decide)
          rw [Wf]
          refine ⟨_, ?_, fs ++ [p], ws, by rw [List.map_append]; rfl, ?_, hgood', rfl, ?_⟩
          · rw [hn]
            show _ < _ + nod b 0 p
            exact Nat.lt_succ_self _
          · rw [← hfit, List.append_assoc]
            rfl
          · omega
        · have h1 := of_decide_eq_false h
          obtain ⟨m, hm⟩ : ∃ m, b.count.toNat - p.length = m + 1 := ⟨b.count.toNat - p.length - 1, by omega⟩
          rw [hm] at hfit hn
          refine ⟨.ref a, b, p, rfl, ⟨_, rd_ins (Ta _ _)⟩, hb, hz, hg, by omega, ?_⟩
          have hnl := next_len hg
          have hnp := nod_pos b (m + 1) p
          simp! []
          refine ⟨_, Tw _ _, le_sz (by rw [List.length_map, List.length_reverse, List.length_map]; omega), ?_⟩
          rw [Ww]
          have hpm : ∀ l : Int, b.count.toNat - (p ++ [l]).length = m := fun l => by rw [List.length_append, List.length_singleton]; omega
          have hsum : ((ws ++ ((nextL b p).map fun l => p ++ [l]).reverse).map fun p => nod b (b.count.toNat - p.length) p).sum + 1 = n := by
            rw [hn, List.map_append, List.sum_append, List.map_reverse, List.sum_reverse, List.map_map, Nat.add_assoc]
            refine congrArg _ ?_
            show _ = 1 + ((nextL b p).map fun l => nod b m (p ++ [l])).sum
            rw [Nat.add_comm]
            refine congrArg (fun x => 1 + x) (congrArg List.sum (List.map_congr_left fun l _ => ?_))
            show nod b (b.count.toNat - (p ++ [l]).length) (p ++ [l]) = _
            rw [hpm]
          refine ⟨_, ?_, fs, ws ++ ((nextL b p).map fun l => p ++ [l]).reverse, ?_, ?_, fun q hq => ?_, rfl, ?_⟩
          · omega
          · rw [List.map_append, List.map_reverse, List.map_map]
            rfl
          · rw [← hfit, List.reverse_append, List.reverse_reverse, List.flatMap_append, List.flatMap_map]
            refine congrArg (fs ++ ·) (congrArg (· ++ _) ?_)
            show (nextL b p).flatMap (fun a => ext b (b.count.toNat - (p ++ [a]).length) (p ++ [a])) = (nextL b p).flatMap fun l => ext b m (p ++ [l])
            refine congrArg (fun g => (nextL b p).flatMap g) (funext fun l => ?_)
            rw [hpm]
          · rcases List.mem_append.mp hq with h | h
            · exact hgood' q h
            · obtain ⟨l, hl, rfl⟩ := List.mem_map.mp (List.mem_reverse.mp h)
              exact ⟨good_next hb hg hl, by rw [List.length_append, List.length_singleton]; omega⟩
          · omega
      · have h0 := of_decide_eq_false h0
        have hws : ws = [] := List.length_eq_zero_iff.mp (by omega)
        subst hws
        have hfs : fs = fits b := by rw [← hfit]; simp
        subst hfs
        simp! [Tf, rd_ins ha, f_looked, D.obj.injEq]
        have fa : f ≠ a := fun e => by rw [e, ha] at hf; cases hf
        have fd : f ≠ d := fun e => by rw [e, hd] at hf; cases hf
        have wa : w ≠ a := fun e => by rw [e, ha] at sw; cases sw
        have wd : w ≠ d := fun e => by rw [e, hd] at sw; cases sw
        have da : (T (List.map tupI (fits b)) []).del f a = some (.ins "Book" bkN (bkL b (.ref d))) := (if_neg fa.symm).trans (Ta _ _)
        have dd : (T (List.map tupI (fits b)) []).del f d = some (.dic [] []) := (if_neg fd.symm).trans (Td _ _)
        have e1 : (((T (List.map tupI (fits b)) []).del f).set d (memoM b true)) d = some (memoM b true) := MS.set_same
        have e2 : (((T (List.map tupI (fits b)) []).del f).set d (memoM b true)) a = some (.ins "Book" bkN (bkL b (.ref d))) := (MS.set_ne ad).trans da
        have e3 : DL.Sub (S.set d (memoM b true)) (((T (List.map tupI (fits b)) []).del f).set d (memoM b true)) := by
          rw [Wd]
          exact Sub.set ((MS.set_ne wd).trans sw)
        refine ⟨_, _, rd_ins da, _, f_looked, d, rfl, [], [], dd, .inr "fitting", rfl, by rw [sizeLine_eq]; decide, ?_⟩
        exact ⟨_, _, rd_ins e2, _, f_looked, rest _ e1 e2 e3⟩)
theorem D_fitting (A : Al K mg) : Def P w K mg base CX0 4 "fitting" ["book"] sp_fitting := by
  obtain ⟨f, fd, Fu, hm, hb⟩ := fu_fitting A
  exact ⟨f, fd, O_fitting A Fu, hm, Fu.kp, hb⟩
end
theorem sc_Book___init__ : FnScope ["self", "count", "overs", "dates", "kinds", "date", "kind"] ["self", "count", "overs", "dates", "kinds"] (defScope s_Book___init__) := ⟨rfl, rfl, rfl, by decide +kernel, rfl, by decide +kernel, by decide +kernel⟩
theorem ar_Book___init__ : ∀ ds S Q E, sp_Book___init__ ds S Q E → ds.length = 5 := by
  rintro ds S Q E h
  simp only [sp_Book___init__] at h
  obtain ⟨_, h⟩ := h
  repeat (first | (obtain ⟨rfl, _⟩ := h; rfl) | (obtain ⟨_, h⟩ := h))
section
variable {P : Program} {w : World} {K : PySem.W.Frag} {mg : Str → Option Value} {base : Heap}
theorem O_Book___init__ (A : Al K mg) {f : Addr} {fd : FuncData} (Fu : FunD K "__init__" "Book.__init__" (defArgs s_Book___init__) (defBody s_Book___init__) (defScope s_Book___init__) [] [] f fd) : FnG P w K mg base CX0 5 f fd ["self", "count", "overs", "dates", "kinds"] (spD K sp_Book___init__) := by
  refine fn_d Fu sc_Book___init__ ar_Book___init__ (fun cdv A0 outer s0 H0 E0' hr => ⟨_, _,
      (db_cons (ds_if (dt_not (dt_val (de_callK (D_is_within A) (hr.mono (by omega)) pass0 rfl (da_cons (de_var 1) (da_cons de_int (da_cons (de_gint rfl A.c_MOST_LAYERS) da_nil))))))
        (db_one ds_never)
        db_nil)
      (db_cons (ds_if (dt_not (dt_val (de_callK (D_are_overs A) (hr.mono (by omega)) pass0 rfl (da_cons (de_var 1) (da_cons (de_var 2) da_nil)))))
        (db_one ds_never)
        db_nil)
      (db_cons (ds_if (dt_w (dw_or (dt_not (dt_val (de_callK (D_is_tuple A) (hr.mono (by omega)) pass0 rfl (da_cons (de_var 3) (da_cons (de_var 1) (da_cons (de_var 1) da_nil)))))) (dw_or1 (dt_not (dt_val (de_cb (cr_allK K rfl) roc_all rfl A.b_all (by decide +kernel) (da_cons (de_lc false [("date", 5)] rfl sc_Book___init__.nd (di_seqK K (de_var 3)) (blkOk_by (by kernel_rfl)) (fun _ _ _ _ _ => (dg_name (vs := [5]) 5 (by decide) sc_Book___init__.nd)) (fun _ _ _ _ _ => dts_nil) (fun _ _ _ _ _ => (de_callK (D_is_date A) (hr.mono (by omega)) pass0 rfl (da_cons (de_var 5) da_nil)))) da_nil)))))))
        (db_one ds_never)
        db_nil)
      (db_cons (ds_if (dt_w (dw_or (dt_not (dt_val (de_callK (D_is_tuple A) (hr.mono (by omega)) pass0 rfl (da_cons (de_var 4) (da_cons de_int (da_cons (de_gint rfl A.c_MOST_KINDS) da_nil)))))) (dw_or1 (dt_not (dt_val (de_cb (cr_allK K rfl) roc_all rfl A.b_all (by decide +kernel) (da_cons (de_lc false [("kind", 6)] rfl sc_Book___init__.nd (di_seqK K (de_var 4)) (blkOk_by (by kernel_rfl)) (fun _ _ _ _ _ => (dg_name (vs := [6]) 6 (by decide) sc_Book___init__.nd)) (fun _ _ _ _ _ => dts_nil) (fun _ _ _ _ _ => (de_callK (D_is_kind A) (hr.mono (by omega)) pass0 rfl (da_cons (de_var 1) (da_cons (de_var 6) da_nil))))) da_nil)))))))
        (db_one ds_never)
        db_nil)
      (db_cons (ds_asg (vs := []) (de_tup (da_cons (de_var 1) (da_cons (de_var 2) da_nil))) (dg_tupK K (n := 2) rfl (dgs_cons (dg_fld K (vs := []) A.cls_Book A.na_Book_count (de_var 0)) (dgs_cons (dg_fld K (vs := []) A.cls_Book A.na_Book_overs (de_var 0)) dgs_nil))))
      (db_cons (ds_asg (vs := []) (de_tup (da_cons (de_var 3) (da_cons (de_var 4) da_nil))) (dg_tupK K (n := 2) rfl (dgs_cons (dg_fld K (vs := []) A.cls_Book A.na_Book_dates (de_var 0)) (dgs_cons (dg_fld K (vs := []) A.cls_Book A.na_Book_kinds (de_var 0)) dgs_nil))))
      (db_one (ds_asg (vs := []) de_dicN (dg_fld K (vs := []) A.cls_Book A.na_Book_looked (de_var 0)))))))))),
      ?_⟩)
  all_goals (
    rintro ds S Q Ed ⟨a, b, rfl, ha, ⟨hc, ⟨ho1, ho2⟩, ⟨hd1, hd2⟩, ⟨hk1, hk2⟩⟩, hz, q⟩
    simp! [sp_is_within, isWithin, sp_are_overs, sp_is_tuple, isTup]
    rw [if_neg (by simp; omega)]
    refine ⟨b.overs, rfl, hz, fun r hr => ?_, ho2, ?_⟩
    · obtain ⟨x, y, h1, h2, h3, h4⟩ := ho1 r hr
      exact ⟨x, y, h1, h2, h3.1, h3.2, h4⟩
    rw [if_neg (by simp [hd1])]
    refine compAllT noG_any (le_sz (by rw [List.length_map]; omega)) (fun d hd S' sub N hN => ?_) ?_
    · obtain ⟨pr, hp, rfl⟩ := List.mem_map.mp hd
      simp! [sp_is_date]
      exact ⟨pr, rfl, rfl, hd2 pr hp, hN⟩
    simp! []
    rw [if_neg (by simp; omega)]
    refine compAllT noG_any (le_sz (by rw [List.length_map]; omega)) (fun d hd S' sub N hN => ?_) ?_
    · obtain ⟨r, hr, rfl⟩ := List.mem_map.mp hd
      obtain ⟨h1, h2, h3⟩ := hk2 r hr
      simp! [sp_is_kind]
      exact ⟨r, rfl, by omega, h1, h3, h2.1, hN⟩
    have p1 : ∀ v : D, putD "count" v [] [] = ((["count"] : List Str), [v]) := fun _ => rfl
    have p2 : ∀ u v : D, putD "overs" v ["count"] [u] = ((["count", "overs"] : List Str), [u, v]) := fun _ _ => rfl
    have p3 : ∀ u1 u2 v : D, putD "dates" v ["count", "overs"] [u1, u2] = ((["count", "overs", "dates"] : List Str), [u1, u2, v]) := fun _ _ _ => rfl
    have p4 : ∀ u1 u2 u3 v : D, putD "kinds" v ["count", "overs", "dates"] [u1, u2, u3] = ((["count", "overs", "dates", "kinds"] : List Str), [u1, u2, u3, v]) := fun _ _ _ _ => rfl
    have p5 : ∀ u1 u2 u3 u4 v : D, putD "looked" v ["count", "overs", "dates", "kinds"] [u1, u2, u3, u4] = ((["count", "overs", "dates", "kinds", "looked"] : List Str), [u1, u2, u3, u4, v]) := fun _ _ _ _ _ => rfl
    simp! [wgFld, ha]
    repeat (refine And.intro (by first | assumption | rfl | (rw [sizeLine_eq] ; simp only [List.length_append, List.length_cons, List.length_nil, List.length_map, List.length_replicate, rep_len] ; omega) | (simp only [List.length_append, List.length_cons, List.length_nil, List.length_map, List.length_replicate, rep_len] ; omega) | omega | (rw [sizeLine_eq] ; omega)) ?_)
    refine ⟨[], [], rfl, by simp, [_], [_], by rw [p1]; exact MS.set_same, by simp, le_sz (by decide), [_, _], [_, _], by rw [p2]; exact MS.set_same, by simp, [_, _, _], [_, _, _], by rw [p3]; exact MS.set_same, by simp, ?_⟩
    rw [p1, p2, p3, p4]
    simp only [MS.set_set]
    intro d hd'
    have da : d ≠ a := fun e => by rw [e, MS.set_same] at hd'; cases hd'
    refine ⟨_, _, by rw [MS.set_ne (Ne.symm da)]; exact MS.set_same, by simp, outK.same ?_⟩
    rw [p5, MS.set_comm da, MS.set_set]
    exact q d (by rw [MS.set_ne da] at hd'; exact hd'))
theorem D_Book___init__ (A : Al K mg) : DefM P w K mg base CX0 5 (He.ma K (He.ga K "Book") "__init__") ["self", "count", "overs", "dates", "kinds"] sp_Book___init__ := by
  obtain ⟨fd, Fu, hb⟩ := fu_Book___init__ A
  exact ⟨fd, O_Book___init__ A Fu, hb⟩
end
theorem sc__law_is : FnScope ["thing", "due", "one", "other"] ["thing", "due"] (defScope s__law_is) := ⟨rfl, rfl, rfl, by decide +kernel, rfl, by decide +kernel, by decide +kernel⟩
theorem ar__law_is (n : Nat) : ∀ ds S Q E, sp__law_is (n + 1) ds S Q E → ds.length = 2 := by
  rintro ds S Q E h
  simp only [sp__law_is] at h
  obtain ⟨_, h⟩ := h
  repeat (first | (obtain ⟨rfl, _⟩ := h; rfl) | (obtain ⟨_, h⟩ := h))
section
variable {P : Program} {w : World} {K : PySem.W.Frag} {mg : Str → Option Value} {base : Heap}
theorem D__law_is (A : Al K mg) : ∀ n : Nat, Def P w K mg base CX0 (1 + n) "_law_is" ["thing", "due"] (sp__law_is n)
  | 0 => by
    obtain ⟨f, fd, Fu, hm, hb⟩ := fu__law_is A
    exact ⟨f, fd, ⟨fun vs H Q E h => (by obtain ⟨_, _, _, _, _, _, _, h, _⟩ := h; exact h.elim), fun _ _ _ H _ _ vs Q E _ _ _ _ _ h => (by obtain ⟨_, _, _, _, _, _, _, h, _⟩ := h; exact h.elim)⟩, hm, Fu.kp, hb⟩
  | n + 1 => by
    have ih := D__law_is A n
    obtain ⟨f, fd, Fu, hm, hb⟩ := fu__law_is A
    refine ⟨f, fd, fn_d (k := 1 + n) Fu sc__law_is (ar__law_is n) (fun cdv A0 outer s0 H0 E0' hr => ⟨_, _,
      (db_cons (ds_if (dt_val (de_isi2K K .tuple .list rfl A.b_isinstance (de_var 1) A.b_tuple A.b_list))
        (db_cons (ds_if (dt_w (dw_or (dt_cmp (op_neK K hr.units) ro_ne (de_isiK K .tuple rfl A.b_isinstance (de_var 1) A.b_tuple) (de_isiK K .tuple rfl A.b_isinstance (de_var 0) A.b_tuple) (nomark _)) (dw_or1 (dt_not (dt_val (de_isi2K K .tuple .list rfl A.b_isinstance (de_var 0) A.b_tuple A.b_list))))))
          (db_one (ds_ret de_bl))
          db_nil)
        (db_one (ds_ret (de_and (de_cmp (op_eqK K hr.units) ro_eq (de_cb (call_lenK K) roc_len rfl A.b_len (by decide +kernel) (da_cons (de_var 0) da_nil)) (de_cb (call_lenK K) roc_len rfl A.b_len (by decide +kernel) (da_cons (de_var 1) da_nil)) (nomark _)) (de_one (de_cb (cr_allK K rfl) roc_all rfl A.b_all (by decide +kernel) (da_cons (de_lc false [("one", 2), ("other", 3)] rfl sc__law_is.nd (di_zipK K rfl A.b_zip (da_cons (de_var 0) (da_cons (de_var 1) da_nil))) (blkOk_by (by kernel_rfl)) (fun _ _ _ _ _ => (dg_tupK K (n := 2) rfl (dgs_cons (dg_name (vs := [2, 3]) 2 (by decide) sc__law_is.nd) (dgs_cons (dg_name (vs := [2, 3]) 3 (by decide) sc__law_is.nd) dgs_nil)))) (fun _ _ _ _ _ => dts_nil) (fun _ _ _ _ _ => (de_callK (ih) (hr.mono (by omega)) pass0 rfl (da_cons (de_var 2) (da_cons (de_var 3) da_nil))))) da_nil)))))))
        db_nil)
      (db_cons (ds_if (dt_w (dw_or (dt_cmp op_isN ro_isN (de_var 1) de_non (nomark _)) (dw_or1 (dt_cmp op_isN ro_isN (de_var 0) de_non (nomark _)))))
        (db_one (ds_ret (de_and (de_cmp op_isN ro_isN (de_var 1) de_non (nomark _)) (de_one (de_cmp op_isN ro_isN (de_var 0) de_non (nomark _))))))
        db_nil)
      (db_cons (ds_if (dt_w (dw_or (dt_val (de_isiK K .bool rfl A.b_isinstance (de_var 1) A.b_bool)) (dw_or1 (dt_val (de_isiK K .bool rfl A.b_isinstance (de_var 0) A.b_bool)))))
        (db_one (ds_ret (de_and (de_isiK K .bool rfl A.b_isinstance (de_var 1) A.b_bool) (de_and (de_isiK K .bool rfl A.b_isinstance (de_var 0) A.b_bool) (de_one (de_cmp (op_eqK K hr.units) ro_eq (de_var 0) (de_var 1) (nomark _)))))))
        db_nil)
      (db_one (ds_ret (de_and (de_isi2K K .int .str rfl A.b_isinstance (de_var 0) A.b_int A.b_str) (de_and (de_cmp (op_eqK K hr.units) ro_eq (de_isiK K .str rfl A.b_isinstance (de_var 0) A.b_str) (de_isiK K .str rfl A.b_isinstance (de_var 1) A.b_str) (nomark _)) (de_one (de_cmp (op_eqK K hr.units) ro_eq (de_var 0) (de_var 1) (nomark _)))))))))),
      ?_⟩), hm, Fu.kp, hb⟩
    all_goals (
      rintro ds S Q Ed ⟨x, rfl, hx, q⟩
      cases n with
      | zero => exact hx.elim
      | succ n =>
        cases x <;> first | exact hx.elim | skip
        · simp! []
          exact outK.same q
        · simp! []
          exact outK.same q
        · simp! [okD_pstr hx]
          exact outK.same q
        · rename_i l
          simp! []
          refine ite_bl (fun h => absurd h (by decide)) (fun _ => ?_)
          refine compAllT noG_any (le_sz (by rw [zipD_length]; have := hx.1; omega)) (fun d hd S' sub N hN => ?_) (outK.same q)
          obtain ⟨i, h1, h2, rfl⟩ := zipD_mem hd
          simp! []
          exact ⟨_, rfl, hx.2 _ (getD_mem h1), hN⟩)
end
theorem sc__law_case : FnScope ["hand", "least", "most", "spec"] ["hand", "least", "most"] (defScope s__law_case) := ⟨rfl, rfl, rfl, by decide +kernel, rfl, by decide +kernel, by decide +kernel⟩
theorem ar__law_case : ∀ ds S Q E, sp__law_case ds S Q E → ds.length = 3 := by
  rintro ds S Q E h
  simp only [sp__law_case] at h
  obtain ⟨_, h⟩ := h
  repeat (first | (obtain ⟨rfl, _⟩ := h; rfl) | (obtain ⟨_, h⟩ := h))
section
variable {P : Program} {w : World} {K : PySem.W.Frag} {mg : Str → Option Value} {base : Heap}
theorem O__law_case (A : Al K mg) {f : Addr} {fd : FuncData} (Fu : FunD K "_law_case" "_law_case" (defArgs s__law_case) (defBody s__law_case) (defScope s__law_case) [] [] f fd) : FnG P w K mg base CX0 7 f fd ["hand", "least", "most"] (spD K sp__law_case) := by
  refine fn_d Fu sc__law_case ar__law_case (fun cdv A0 outer s0 H0 E0' hr => ⟨_, _,
      (db_cons (ds_set 3 sc__law_case.nd (de_callK (D__law_spec A) (hr.mono (by omega)) pass0 rfl (da_cons (de_var 0) (da_cons (de_op (op_addK K) (ro_add false) (de_var 1) (de_callK (V__law_draw A) (hr.mono (by omega)) pass0 rfl (da_cons (de_var 0) (da_cons (de_op (op_addK K) (ro_add false) (de_op op_sub ro_I0 (de_var 2) (de_var 1)) de_int) da_nil)))) da_nil))))
      (db_one (ds_ret (de_tup (da_cons (de_var 3) (da_cons (de_callK (D__law_fitting A) (hr.mono (by omega)) pass0 rfl (da_cons (de_var 3) da_nil)) (da_cons (de_make true A.mk_Book (D_Book___init__ A) (hr.mono (by omega)) pass0 rfl A.g_Book (da_cons (de_ixK K (de_var 3) de_int) (da_cons (de_ixK K (de_var 3) de_int) (da_cons (de_ixK K (de_var 3) de_int) (da_cons (de_ixK K (de_var 3) de_int) da_nil))))) da_nil))))))),
      ?_⟩)
  all_goals (
    rintro ds S Q Ed ⟨t, lo, hi, rfl, ht, hlo, q⟩
    simp! [drawSp, sp__law_spec]
    refine ⟨ht, by omega, by omega, fun i h0 h1 => ?_⟩
    refine ⟨ht, by omega, by omega, fun b hbc hb hz => ?_⟩
    refine ⟨b, rfl, hb, hz, by omega, ?_⟩
    simp! [specD, wMake]
    refine fun a ha => ⟨a, b, rfl, MS.set_same, hb, hz, fun d hd => ⟨rfl, ?_⟩⟩
    have da : d ≠ a := fun e => by rw [e, MS.set_same] at hd; cases hd
    unfold endI
    rw [if_pos rfl, MS.set_set]
    repeat (refine And.intro (by first | assumption | rfl | (rw [sizeLine_eq] ; simp only [List.length_append, List.length_cons, List.length_nil, List.length_map, List.length_replicate, rep_len] ; omega) | (simp only [List.length_append, List.length_cons, List.length_nil, List.length_map, List.length_replicate, rep_len] ; omega) | omega | (rw [sizeLine_eq] ; omega)) ?_)
    exact outK.same (q b a d (by omega) hb hz ha (by rw [MS.set_ne da] at hd; exact hd) (Ne.symm da)))
theorem D__law_case (A : Al K mg) : Def P w K mg base CX0 7 "_law_case" ["hand", "least", "most"] sp__law_case := by
  obtain ⟨f, fd, Fu, hm, hb⟩ := fu__law_case A
  exact ⟨f, fd, O__law_case A Fu, hm, Fu.kp, hb⟩
end
theorem sc_is_so : FnScope ["saying", "order", "word", "flags", "one", "other", "part"] ["saying", "order"] (defScope s_is_so) := ⟨rfl, rfl, rfl, by decide +kernel, rfl, by decide +kernel, by decide +kernel⟩
theorem ar_is_so (n : Nat) : ∀ ds S Q E, sp_is_so (n + 1) ds S Q E → ds.length = 2 := by
  rintro ds S Q E h
  simp only [sp_is_so] at h
  obtain ⟨_, h⟩ := h
  repeat (first | (obtain ⟨rfl, _⟩ := h; rfl) | (obtain ⟨_, h⟩ := h))
section
variable {P : Program} {w : World} {K : PySem.W.Frag} {mg : Str → Option Value} {base : Heap}
theorem D_is_so (A : Al K mg) : ∀ n : Nat, Def P w K mg base CX0 (1 + n) "is_so" ["saying", "order"] (sp_is_so n)
  | 0 => by
    obtain ⟨f, fd, Fu, hm, hb⟩ := fu_is_so A
    exact ⟨f, fd, ⟨fun vs H Q E h => (by obtain ⟨_, _, _, _, _, _, _, h, _⟩ := h; exact h.elim), fun _ _ _ H _ _ vs Q E _ _ _ _ _ h => (by obtain ⟨_, _, _, _, _, _, _, h, _⟩ := h; exact h.elim)⟩, hm, Fu.kp, hb⟩
  | n + 1 => by
    have ih := D_is_so A n
    obtain ⟨f, fd, Fu, hm, hb⟩ := fu_is_so A
    refine ⟨f, fd, fn_d (k := 1 + n) Fu sc_is_so (ar_is_so n) (fun cdv A0 outer s0 H0 E0' hr => ⟨_, _,
      (db_cons (ds_set 2 sc_is_so.nd (de_ixK K (de_var 0) de_int))
      (db_cons (ds_if (dt_cmp (op_eqK K hr.units) ro_eq (de_var 2) de_str (nomark _))
        (db_one (ds_ret (de_not (de_callK (ih) (hr.mono (by omega)) pass0 rfl (da_cons (de_ixK K (de_var 0) de_int) (da_cons (de_var 1) da_nil))))))
        db_nil)
      (db_cons (ds_if (dt_cmp (op_inK K) (ro_in false) (de_var 2) (de_tup (da_cons de_str (da_cons de_str da_nil))) (by rfl))
        (db_cons (ds_setLc false 3 [("part", 6)] rfl sc_is_so.nd (di_seqK K (de_slK K false (de_var 0) (do_some de_int) do_none)) (blkOk_by (by kernel_rfl)) (fun _ _ _ _ _ => (dg_name (vs := [6]) 6 (by decide) sc_is_so.nd)) (fun _ _ _ _ _ => dts_nil) (fun _ _ _ _ _ => (de_callK (ih) (hr.mono (by omega)) pass0 rfl (da_cons (de_var 6) (da_cons (de_var 1) da_nil)))))
        (db_one (ds_ret (de_if (dt_cmp (op_eqK K hr.units) ro_eq (de_var 2) de_str (nomark _)) (de_cb (cr_allK K rfl) roc_all rfl A.b_all (by decide +kernel) (da_cons (de_var 3) da_nil)) (de_cb (cr_anyK K rfl) roc_any rfl A.b_any (by decide +kernel) (da_cons (de_var 3) da_nil))))))
        db_nil)
      (db_cons (ds_if (dt_cmp (op_eqK K hr.units) ro_eq (de_var 2) de_str (nomark _))
        (db_one (ds_ret (de_cmp (op_eqK K hr.units) ro_eq (de_ixK K (de_var 1) (de_ixK K (de_var 0) de_int)) (de_ixK K (de_var 0) de_int) (nomark _))))
        db_nil)
      (db_cons (ds_par 4 5 rfl sc_is_so.nd (by decide) (da_cons (de_bmT K PySem.F.plainAttrs_tuple PySem.F.slot_tuple_index PySem.F.type_tuple_index (mt_indexT K) rm_indexT (de_var 1) (da_cons (de_ixK K (de_var 0) de_int) da_nil)) (da_cons (de_bmT K PySem.F.plainAttrs_tuple PySem.F.slot_tuple_index PySem.F.type_tuple_index (mt_indexT K) rm_indexT (de_var 1) (da_cons (de_ixK K (de_var 0) de_int) da_nil)) da_nil)))
      (db_one (ds_ret (de_if (dt_cmp (op_eqK K hr.units) ro_eq (de_var 2) de_str (nomark _)) (de_cmp op_lt ro_IB (de_var 4) (de_var 5) (nomark _)) (de_cmp (op_eqK K hr.units) ro_eq (de_op (op_addK K) (ro_add false) (de_var 4) de_int) (de_var 5) (nomark _)))))))))),
      ?_⟩), hm, Fu.kp, hb⟩
    all_goals (
      rintro ds S Q Ed ⟨c, s, order, rfl, hs, hp, hd, q⟩
      have st : ∀ (S : MS) (u : Sy), rd S (syD u) = syD u := fun S u => rd_pu (syD_pu u)
      have stp : ∀ (S : MS) (u : List D), rd S (.tup u) = .tup u := fun S u => rfl
      cases s with
      | no s =>
        obtain ⟨n', rfl⟩ : ∃ n', n = n' + 1 := ⟨n - 1, by simp only [syDep] at hd; omega⟩
        simp! [syD]
        exact ⟨c, s, order, rfl, hs, hp, by simp only [syDep] at hd; omega, _, rfl, outK.same q⟩
      | an s u =>
        obtain ⟨n', rfl⟩ : ∃ n', n = n' + 1 := ⟨n - 1, by simp only [syDep] at hd; omega⟩
        simp! [syD]
        repeat (refine And.intro (by first | assumption | rfl | (rw [sizeLine_eq] ; simp only [List.length_append, List.length_cons, List.length_nil, List.length_map, List.length_replicate, rep_len] ; omega) | (simp only [List.length_append, List.length_cons, List.length_nil, List.length_map, List.length_replicate, rep_len] ; omega) | omega | (rw [sizeLine_eq] ; omega)) ?_)
        rw [show DL.cutD [.str "and", syD s, syD u] (some 1) none = [syD s, syD u] from cutD_from (by decide)]
        refine compAllTo (ds := [syD s, syD u]) [soS order s, soS order u] rfl noG_any (le_sz (by simp)) (fun i d b h3 h4 S' sub N hN => ?_) (outK.same (by simpa [soS] using q))
        match i with
        | 0 =>
          cases h3
          cases h4
          simp! [st]
          exact ⟨c, s, order, rfl, hs.1, hp, by simp only [syDep] at hd; omega, hN⟩
        | 1 =>
          cases h3
          cases h4
          simp! [st]
          exact ⟨c, u, order, rfl, hs.2, hp, by simp only [syDep] at hd; omega, hN⟩
        | n + 2 => cases h3
      | or s u =>
        obtain ⟨n', rfl⟩ : ∃ n', n = n' + 1 := ⟨n - 1, by simp only [syDep] at hd; omega⟩
        simp! [syD]
        repeat (refine And.intro (by first | assumption | rfl | (rw [sizeLine_eq] ; simp only [List.length_append, List.length_cons, List.length_nil, List.length_map, List.length_replicate, rep_len] ; omega) | (simp only [List.length_append, List.length_cons, List.length_nil, List.length_map, List.length_replicate, rep_len] ; omega) | omega | (rw [sizeLine_eq] ; omega)) ?_)
        rw [show DL.cutD [.str "or", syD s, syD u] (some 1) none = [syD s, syD u] from cutD_from (by decide)]
        refine compAnyTo (ds := [syD s, syD u]) [soS order s, soS order u] rfl noG_any (le_sz (by simp)) (fun i d b h3 h4 S' sub N hN => ?_) (outK.same (by simpa [soS] using q))
        match i with
        | 0 =>
          cases h3
          cases h4
          simp! [st]
          exact ⟨c, s, order, rfl, hs.1, hp, by simp only [syDep] at hd; omega, hN⟩
        | 1 =>
          cases h3
          cases h4
          simp! [st]
          exact ⟨c, u, order, rfl, hs.2, hp, by simp only [syDep] at hd; omega, hN⟩
        | n + 2 => cases h3
      | at_ a i =>
        have hs : (0 ≤ a ∧ a < c) ∧ (0 ≤ i ∧ i < c) := hs
        have hl := permN_length (by have := hs.1; omega) hp
        have h1 : i.toNat < order.length := by have := hs.2; omega
        simp! [syD]
        repeat (refine And.intro (by first | assumption | rfl | (rw [sizeLine_eq] ; simp only [List.length_append, List.length_cons, List.length_nil, List.length_map, List.length_replicate, rep_len] ; omega) | (simp only [List.length_append, List.length_cons, List.length_nil, List.length_map, List.length_replicate, rep_len] ; omega) | omega | (rw [sizeLine_eq] ; omega)) ?_)
        refine wIxt hs.2.1 (by rw [List.length_map]; have := hs.2; omega) ?_
        rw [getD_int h1]
        simp! []
        refine outK.same ?_
        rw [show decide (order[i.toNat] = a) = soS order (.at_ a i) from ?_]
        · exact q
        · show _ = decide ((order.idxOf a : Int) = i)
          rw [decide_eq_decide]
          constructor
          · rintro rfl
            rw [idxOf_getElem' (permN_nodup hp) h1]
            have := hs.2
            omega
          · intro e
            have e2 : order.idxOf a = i.toNat := by omega
            subst e
            have h3 : order.idxOf a < order.length := by omega
            simp only [Int.toNat_natCast]
            exact List.getElem_idxOf h3
      | ah a b =>
        have ma : a ∈ order := permN_of hp hs.1
        have mb : b ∈ order := permN_of hp hs.2.1
        simp! [syD, wPar, wIndexT]
        repeat (refine And.intro (by first | assumption | rfl | (rw [sizeLine_eq] ; simp only [List.length_append, List.length_cons, List.length_nil, List.length_map, List.length_replicate, rep_len] ; omega) | (simp only [List.length_append, List.length_cons, List.length_nil, List.length_map, List.length_replicate, rep_len] ; omega) | omega | (rw [sizeLine_eq] ; omega)) ?_)
        exact ⟨⟨_, rfl⟩, order, rfl, ma, ⟨_, rfl⟩, order, rfl, mb, outK.same q⟩
      | nx a b =>
        have ma : a ∈ order := permN_of hp hs.1
        have mb : b ∈ order := permN_of hp hs.2.1
        simp! [syD, wPar, wIndexT]
        repeat (refine And.intro (by first | assumption | rfl | (rw [sizeLine_eq] ; simp only [List.length_append, List.length_cons, List.length_nil, List.length_map, List.length_replicate, rep_len] ; omega) | (simp only [List.length_append, List.length_cons, List.length_nil, List.length_map, List.length_replicate, rep_len] ; omega) | omega | (rw [sizeLine_eq] ; omega)) ?_)
        exact ⟨⟨_, rfl⟩, order, rfl, ma, ⟨_, rfl⟩, order, rfl, mb, outK.same q⟩)
end
theorem sc__law_so : FnScope ["saying", "order", "word", "flags", "at", "other"] ["saying", "order"] (defScope s__law_so) := ⟨rfl, rfl, rfl, by decide +kernel, rfl, by decide +kernel, by decide +kernel⟩
theorem ar__law_so (n : Nat) : ∀ ds S Q E, sp__law_so (n + 1) ds S Q E → ds.length = 2 := by
  rintro ds S Q E h
  simp only [sp__law_so] at h
  obtain ⟨_, h⟩ := h
  repeat (first | (obtain ⟨rfl, _⟩ := h; rfl) | (obtain ⟨_, h⟩ := h))
section
variable {P : Program} {w : World} {K : PySem.W.Frag} {mg : Str → Option Value} {base : Heap}
theorem D__law_so (A : Al K mg) : ∀ n : Nat, Def P w K mg base CX0 (1 + n) "_law_so" ["saying", "order"] (sp__law_so n)
  | 0 => by
    obtain ⟨f, fd, Fu, hm, hb⟩ := fu__law_so A
    exact ⟨f, fd, ⟨fun vs H Q E h => (by obtain ⟨_, _, _, _, _, _, _, h, _⟩ := h; exact h.elim), fun _ _ _ H _ _ vs Q E _ _ _ _ _ h => (by obtain ⟨_, _, _, _, _, _, _, h, _⟩ := h; exact h.elim)⟩, hm, Fu.kp, hb⟩
  | n + 1 => by
    have ih := D__law_so A n
    obtain ⟨f, fd, Fu, hm, hb⟩ := fu__law_so A
    refine ⟨f, fd, fn_d (k := 1 + n) Fu sc__law_so (ar__law_so n) (fun cdv A0 outer s0 H0 E0' hr => ⟨_, _,
      (db_cons (ds_set 2 sc__law_so.nd (de_ixK K (de_var 0) de_int))
      (db_cons (ds_if (dt_cmp (op_eqK K hr.units) ro_eq (de_var 2) de_str (nomark _))
        (db_one (ds_ret (de_not (de_callK (ih) (hr.mono (by omega)) pass0 rfl (da_cons (de_ixK K (de_var 0) de_int) (da_cons (de_var 1) da_nil))))))
        db_nil)
      (db_cons (ds_if (dt_cmp (op_inK K) (ro_in false) (de_var 2) (de_tup (da_cons de_str (da_cons de_str da_nil))) (by rfl))
        (db_cons (ds_set 3 sc__law_so.nd (de_lst false (da_cons (de_callK (ih) (hr.mono (by omega)) pass0 rfl (da_cons (de_ixK K (de_var 0) de_int) (da_cons (de_var 1) da_nil))) (da_cons (de_callK (ih) (hr.mono (by omega)) pass0 rfl (da_cons (de_ixK K (de_var 0) de_int) (da_cons (de_var 1) da_nil))) da_nil))))
        (db_one (ds_ret (de_if (dt_cmp (op_eqK K hr.units) ro_eq (de_var 2) de_str (nomark _)) (de_cb (cr_allK K rfl) roc_all rfl A.b_all (by decide +kernel) (da_cons (de_var 3) da_nil)) (de_cb (cr_anyK K rfl) roc_any rfl A.b_any (by decide +kernel) (da_cons (de_var 3) da_nil))))))
        db_nil)
      (db_cons (ds_set 4 sc__law_so.nd (de_bmT K PySem.F.plainAttrs_tuple PySem.F.slot_tuple_index PySem.F.type_tuple_index (mt_indexT K) rm_indexT (de_var 1) (da_cons (de_ixK K (de_var 0) de_int) da_nil)))
      (db_cons (ds_if (dt_cmp (op_eqK K hr.units) ro_eq (de_var 2) de_str (nomark _))
        (db_one (ds_ret (de_cmp (op_eqK K hr.units) ro_eq (de_var 4) (de_ixK K (de_var 0) de_int) (nomark _))))
        db_nil)
      (db_cons (ds_set 5 sc__law_so.nd (de_bmT K PySem.F.plainAttrs_tuple PySem.F.slot_tuple_index PySem.F.type_tuple_index (mt_indexT K) rm_indexT (de_var 1) (da_cons (de_ixK K (de_var 0) de_int) da_nil)))
      (db_one (ds_ret (de_if (dt_cmp (op_eqK K hr.units) ro_eq (de_var 2) de_str (nomark _)) (de_cmp op_lt ro_IB (de_var 4) (de_var 5) (nomark _)) (de_cmp (op_eqK K hr.units) ro_eq (de_op (op_addK K) (ro_add false) (de_var 4) de_int) (de_var 5) (nomark _))))))))))),
      ?_⟩), hm, Fu.kp, hb⟩
    all_goals (
      rintro ds S Q Ed ⟨c, s, order, rfl, hs, hp, hd, q⟩
      have st : ∀ (S : MS) (u : Sy), rd S (syD u) = syD u := fun S u => rd_pu (syD_pu u)
      cases s with
      | no s =>
        obtain ⟨n', rfl⟩ : ∃ n', n = n' + 1 := ⟨n - 1, by simp only [syDep] at hd; omega⟩
        simp! [syD]
        exact ⟨c, s, order, rfl, hs, hp, by simp only [syDep] at hd; omega, _, rfl, outK.same q⟩
      | an s u =>
        obtain ⟨n', rfl⟩ : ∃ n', n = n' + 1 := ⟨n - 1, by simp only [syDep] at hd; omega⟩
        simp! [syD]
        repeat (refine And.intro (by first | assumption | rfl | (rw [sizeLine_eq] ; simp only [List.length_append, List.length_cons, List.length_nil, List.length_map, List.length_replicate, rep_len] ; omega) | (simp only [List.length_append, List.length_cons, List.length_nil, List.length_map, List.length_replicate, rep_len] ; omega) | omega | (rw [sizeLine_eq] ; omega)) ?_)
        refine ⟨c, s, order, rfl, hs.1, hp, by simp only [syDep] at hd; omega, ?_⟩
        refine ⟨c, u, order, rfl, hs.2, hp, by simp only [syDep] at hd; omega, ?_⟩
        simp! []
        repeat (refine And.intro (by first | assumption | rfl | (rw [sizeLine_eq] ; simp only [List.length_append, List.length_cons, List.length_nil, List.length_map, List.length_replicate, rep_len] ; omega) | (simp only [List.length_append, List.length_cons, List.length_nil, List.length_map, List.length_replicate, rep_len] ; omega) | omega | (rw [sizeLine_eq] ; omega)) ?_)
        exact ⟨[_, _], rfl, outK.same (by simpa [soS] using q)⟩
      | or s u =>
        obtain ⟨n', rfl⟩ : ∃ n', n = n' + 1 := ⟨n - 1, by simp only [syDep] at hd; omega⟩
        simp! [syD]
        repeat (refine And.intro (by first | assumption | rfl | (rw [sizeLine_eq] ; simp only [List.length_append, List.length_cons, List.length_nil, List.length_map, List.length_replicate, rep_len] ; omega) | (simp only [List.length_append, List.length_cons, List.length_nil, List.length_map, List.length_replicate, rep_len] ; omega) | omega | (rw [sizeLine_eq] ; omega)) ?_)
        refine ⟨c, s, order, rfl, hs.1, hp, by simp only [syDep] at hd; omega, ?_⟩
        refine ⟨c, u, order, rfl, hs.2, hp, by simp only [syDep] at hd; omega, ?_⟩
        simp! []
        repeat (refine And.intro (by first | assumption | rfl | (rw [sizeLine_eq] ; simp only [List.length_append, List.length_cons, List.length_nil, List.length_map, List.length_replicate, rep_len] ; omega) | (simp only [List.length_append, List.length_cons, List.length_nil, List.length_map, List.length_replicate, rep_len] ; omega) | omega | (rw [sizeLine_eq] ; omega)) ?_)
        exact ⟨[_, _], rfl, outK.same (by simpa [soS] using q)⟩
      | at_ a i =>
        have ma : a ∈ order := permN_of hp hs.1
        simp! [syD, wIndexT]
        repeat (refine And.intro (by first | assumption | rfl | (rw [sizeLine_eq] ; simp only [List.length_append, List.length_cons, List.length_nil, List.length_map, List.length_replicate, rep_len] ; omega) | (simp only [List.length_append, List.length_cons, List.length_nil, List.length_map, List.length_replicate, rep_len] ; omega) | omega | (rw [sizeLine_eq] ; omega)) ?_)
        exact ⟨⟨_, rfl⟩, order, rfl, ma, outK.same q⟩
      | ah a b =>
        have ma : a ∈ order := permN_of hp hs.1
        have mb : b ∈ order := permN_of hp hs.2.1
        simp! [syD, wIndexT]
        repeat (refine And.intro (by first | assumption | rfl | (rw [sizeLine_eq] ; simp only [List.length_append, List.length_cons, List.length_nil, List.length_map, List.length_replicate, rep_len] ; omega) | (simp only [List.length_append, List.length_cons, List.length_nil, List.length_map, List.length_replicate, rep_len] ; omega) | omega | (rw [sizeLine_eq] ; omega)) ?_)
        exact ⟨⟨_, rfl⟩, order, rfl, ma, ⟨_, rfl⟩, order, rfl, mb, outK.same q⟩
      | nx a b =>
        have ma : a ∈ order := permN_of hp hs.1
        have mb : b ∈ order := permN_of hp hs.2.1
        simp! [syD, wIndexT]
        repeat (refine And.intro (by first | assumption | rfl | (rw [sizeLine_eq] ; simp only [List.length_append, List.length_cons, List.length_nil, List.length_map, List.length_replicate, rep_len] ; omega) | (simp only [List.length_append, List.length_cons, List.length_nil, List.length_map, List.length_replicate, rep_len] ; omega) | omega | (rw [sizeLine_eq] ; omega)) ?_)
        exact ⟨⟨_, rfl⟩, order, rfl, ma, ⟨_, rfl⟩, order, rfl, mb, outK.same q⟩)
end
theorem sc_those_so : FnScope ["book", "saying", "order"] ["book", "saying"] (defScope s_those_so) := ⟨rfl, rfl, rfl, by decide +kernel, rfl, by decide +kernel, by decide +kernel⟩
theorem ar_those_so : ∀ ds S Q E, sp_those_so ds S Q E → ds.length = 2 := by
  rintro ds S Q E h
  simp only [sp_those_so] at h
  obtain ⟨_, h⟩ := h
  repeat (first | (obtain ⟨rfl, _⟩ := h; rfl) | (obtain ⟨_, h⟩ := h))
section
variable {P : Program} {w : World} {K : PySem.W.Frag} {mg : Str → Option Value} {base : Heap}
theorem O_those_so (A : Al K mg) {f : Addr} {fd : FuncData} (Fu : FunD K "those_so" "those_so" (defArgs s_those_so) (defBody s_those_so) (defScope s_those_so) [] [] f fd) : FnG P w K mg base CX0 9 f fd ["book", "saying"] (spD K sp_those_so) := by
  refine fn_d Fu sc_those_so ar_those_so (fun cdv A0 outer s0 H0 E0' hr => ⟨_, _,
      (db_one (ds_ret (de_lc false [("order", 2)] rfl sc_those_so.nd (di_seqK K (de_callK (D_fitting A) (hr.mono (by omega)) pass0 rfl (da_cons (de_var 0) da_nil))) (blkOk_by (by kernel_rfl)) (fun _ _ _ _ _ => (dg_name (vs := [2]) 2 (by decide) sc_those_so.nd)) (fun _ _ _ _ _ => (dts_one (dt_val (de_callK (D_is_so A 7) (hr.mono (by omega)) pass0 rfl (da_cons (de_var 1) (da_cons (de_var 2) da_nil)))))) (fun _ _ _ _ _ => (de_var 2))))),
      ?_⟩)
  all_goals (
    rintro ds S Q Ed ⟨a, d, b, m, s, rfl, hm, hb, hc, hz, hs, hd, q⟩
    have fl := fits_le hb hc
    simp! []
    refine ⟨a, d, b, m, rfl, hm, hb, hc, hz, ?_⟩
    simp! []
    refine compL_fm (h := tupI) (fun o => soS o s) noG_any (le_sz (by omega)) (fun o ho S2 sub N M hN hM => ?_) (outK.same q)
    simp! []
    exact ⟨b.count, s, o, rfl, hs, fits_perm hb ho, by show syDep s ≤ (6 : Nat); omega, _, rfl, ite_bl hN hM⟩)
theorem D_those_so (A : Al K mg) : Def P w K mg base CX0 9 "those_so" ["book", "saying"] sp_those_so := by
  obtain ⟨f, fd, Fu, hm, hb⟩ := fu_those_so A
  exact ⟨f, fd, O_those_so A Fu, hm, Fu.kp, hb⟩
end
theorem sc__law_saying : FnScope ["hand", "count", "deep", "kind", "word", "a", "b"] ["hand", "count", "deep"] (defScope s__law_saying) := ⟨rfl, rfl, rfl, by decide +kernel, rfl, by decide +kernel, by decide +kernel⟩
theorem ar__law_saying (n : Nat) : ∀ ds S Q E, sp__law_saying (n + 1) ds S Q E → ds.length = 3 := by
  rintro ds S Q E h
  simp only [sp__law_saying] at h
  obtain ⟨_, h⟩ := h
  repeat (first | (obtain ⟨rfl, _⟩ := h; rfl) | (obtain ⟨_, h⟩ := h))
section
variable {P : Program} {w : World} {K : PySem.W.Frag} {mg : Str → Option Value} {base : Heap}
theorem D__law_saying (A : Al K mg) : ∀ n : Nat, Def P w K mg base CX0 (3 + n) "_law_saying" ["hand", "count", "deep"] (sp__law_saying n)
  | 0 => by
    obtain ⟨f, fd, Fu, hm, hb⟩ := fu__law_saying A
    exact ⟨f, fd, ⟨fun vs H Q E h => (by obtain ⟨_, _, _, _, _, _, _, h, _⟩ := h; exact h.elim), fun _ _ _ H _ _ vs Q E _ _ _ _ _ h => (by obtain ⟨_, _, _, _, _, _, _, h, _⟩ := h; exact h.elim)⟩, hm, Fu.kp, hb⟩
  | n + 1 => by
    have ih := D__law_saying A n
    obtain ⟨f, fd, Fu, hm, hb⟩ := fu__law_saying A
    refine ⟨f, fd, fn_d (k := 3 + n) Fu sc__law_saying (ar__law_saying n) (fun cdv A0 outer s0 H0 E0' hr => ⟨_, _,
      (db_cons (ds_set 3 sc__law_saying.nd (de_callK (V__law_draw A) (hr.mono (by omega)) pass0 rfl (da_cons (de_var 0) (da_cons de_int da_nil))))
      (db_cons (ds_if (dt_w (dw_and (dt_cmp op_gt ro_IB (de_var 2) de_int (nomark _)) (dw_and1 (dt_cmp op_lt ro_IB (de_var 3) de_int (nomark _)))))
        (db_cons (ds_if (dt_cmp (op_eqK K hr.units) ro_eq (de_var 3) de_int (nomark _))
          (db_one (ds_ret (de_tup (da_cons de_str (da_cons (de_callK (ih) (hr.mono (by omega)) pass0 rfl (da_cons (de_var 0) (da_cons (de_var 1) (da_cons (de_op op_sub ro_I0 (de_var 2) de_int) da_nil)))) da_nil)))))
          db_nil)
        (db_cons (ds_set 4 sc__law_saying.nd (de_ixK K (de_lst false (da_cons de_str (da_cons de_str da_nil))) (de_op op_sub ro_I0 (de_var 3) de_int)))
        (db_one (ds_ret (de_tup (da_cons (de_var 4) (da_cons (de_callK (ih) (hr.mono (by omega)) pass0 rfl (da_cons (de_var 0) (da_cons (de_var 1) (da_cons (de_op op_sub ro_I0 (de_var 2) de_int) da_nil)))) (da_cons (de_callK (ih) (hr.mono (by omega)) pass0 rfl (da_cons (de_var 0) (da_cons (de_var 1) (da_cons (de_op op_sub ro_I0 (de_var 2) de_int) da_nil)))) da_nil))))))))
        db_nil)
      (db_cons (ds_set 5 sc__law_saying.nd (de_callK (V__law_draw A) (hr.mono (by omega)) pass0 rfl (da_cons (de_var 0) (da_cons (de_var 1) da_nil))))
      (db_cons (ds_if (dt_w (dw_or (dt_cmp (op_eqK K hr.units) ro_eq (de_var 3) de_int (nomark _)) (dw_or1 (dt_cmp (op_eqK K hr.units) ro_eq (de_var 1) de_int (nomark _)))))
        (db_one (ds_ret (de_tup (da_cons de_str (da_cons (de_var 5) (da_cons (de_callK (V__law_draw A) (hr.mono (by omega)) pass0 rfl (da_cons (de_var 0) (da_cons (de_var 1) da_nil))) da_nil))))))
        db_nil)
      (db_cons (ds_set 6 sc__law_saying.nd (de_op op_mod ro_II (de_ct call_int1 roc_int rfl A.b_int (by decide +kernel) (da_cons (de_op (op_addK K) (ro_add false) (de_op (op_addK K) (ro_add false) (de_var 5) de_int) (de_callK (V__law_draw A) (hr.mono (by omega)) pass0 rfl (da_cons (de_var 0) (da_cons (de_op op_sub ro_I0 (de_var 1) de_int) da_nil)))) da_nil)) (de_var 1)))
      (db_one (ds_ret (de_tup (da_cons (de_callK (D__law_some A) (hr.mono (by omega)) pass0 rfl (da_cons (de_var 0) (da_cons (de_lst false (da_cons de_str (da_cons de_str (da_cons de_str da_nil)))) da_nil))) (da_cons (de_var 5) (da_cons (de_var 6) da_nil))))))))))),
      ?_⟩), hm, Fu.kp, hb⟩
    all_goals (
      rintro ds S Q Ed ⟨t, c, k, rfl, ht, hc, hk, q⟩
      simp! [drawSp]
      refine ⟨ht, by omega, by omega, fun kind h1 h2 => ?_⟩
      have leaf : ∀ a : Int, 0 ≤ a → a < c → ∀ s : Sy, syOk c s → syDep s = 0 → outK Q (syD s) S := fun a _ _ s h0 h1 => outK.same (q s h0 (by rw [h1]; omega))
      have tail : S t = some (MO.opq (opq2 JH)) ∧ 0 < c ∧ c < 1000000000 ∧ ∀ (i : Int), 0 ≤ i → i < c → if decide (kind = 5) = true then S t = some (MO.opq (opq2 JH)) ∧ 0 < c ∧ c < 1000000000 ∧ ∀ (i_1 : Int), 0 ≤ i_1 → i_1 < c → 3 ≤ sizeLine ∧ outK Q (D.tup [D.str (Str.ofString "at"), D.int i, D.int i_1]) S
          else if decide (c = 1) = true then S t = some (MO.opq (opq2 JH)) ∧ 0 < c ∧ c < 1000000000 ∧ ∀ (i_1 : Int), 0 ≤ i_1 → i_1 < c → 3 ≤ sizeLine ∧ outK Q (D.tup [D.str (Str.ofString "at"), D.int i, D.int i_1]) S
          else S t = some (MO.opq (opq2 JH)) ∧ 0 < c - 1 ∧ c - 1 < 1000000000 ∧ ∀ (i_1 : Int), 0 ≤ i_1 → i_1 < c - 1 → 0 < c ∧ 3 ≤ sizeLine ∧
            sp__law_some [D.ref t, D.lst [D.str (Str.ofString "ahead"), D.str (Str.ofString "ahead"), D.str (Str.ofString "next")]] S (fun d S2 => 3 ≤ sizeLine ∧ outK Q (D.tup [d, D.int i, D.int ((i + 1 + i_1) % c)]) S2) noX := by
        refine ⟨ht, by omega, by omega, fun a ha1 ha2 => ite_bl (fun _ => ?_) (fun _ => ite_bl (fun _ => ?_) (fun hc1 => ?_))⟩
        · exact ⟨ht, by omega, by omega, fun i hi1 hi2 => ⟨le_sz (by decide), leaf a ha1 ha2 (.at_ a i) ⟨⟨ha1, ha2⟩, hi1, hi2⟩ rfl⟩⟩
        · exact ⟨ht, by omega, by omega, fun i hi1 hi2 => ⟨le_sz (by decide), leaf a ha1 ha2 (.at_ a i) ⟨⟨ha1, ha2⟩, hi1, hi2⟩ rfl⟩⟩
        · have hc1 := of_decide_eq_false hc1
          refine ⟨ht, by omega, by omega, fun j hj1 hj2 => ⟨by omega, le_sz (by decide), ?_⟩⟩
          have hb : (0 ≤ (a + 1 + j) % c ∧ (a + 1 + j) % c < c) ∧ a ≠ (a + 1 + j) % c := by
            refine ⟨⟨Int.emod_nonneg _ (by omega), Int.emod_lt_of_pos _ (by omega)⟩, fun e => ?_⟩
            by_cases h : a + 1 + j < c
            · rw [Int.emod_eq_of_lt (by omega) h] at e
              omega
            · rw [← Int.sub_emod_right, Int.emod_eq_of_lt (by omega) (by omega)] at e
              omega
          refine ⟨t, _, rfl, ht, by decide, fun x hx => ⟨le_sz (by decide), ?_⟩⟩
          simp only [List.mem_cons, List.not_mem_nil, or_false, or_self_left] at hx
          rcases hx with rfl | rfl
          · exact leaf a ha1 ha2 (.ah a ((a + 1 + j) % c)) ⟨⟨ha1, ha2⟩, hb.1, hb.2⟩ rfl
          · exact leaf a ha1 ha2 (.nx a ((a + 1 + j) % c)) ⟨⟨ha1, ha2⟩, hb.1, hb.2⟩ rfl
      refine ite_bl (fun hk1 => ?_) (fun _ => tail)
      have hk1 := of_decide_eq_true hk1
      obtain ⟨n', rfl⟩ : ∃ n', n = n' + 1 := ⟨n - 1, by omega⟩
      refine ite_bl (fun h3 => ?_) (fun _ => tail)
      have h3 := of_decide_eq_true h3
      refine ite_bl (fun h4 => ?_) (fun h4 => ?_)
      · refine ⟨t, c, k - 1, rfl, ht, hc, by omega, fun s hs hd => ⟨le_sz (by decide), outK.same (q (.no s) hs (by simp only [syDep]; omega))⟩⟩
      · have h4 := of_decide_eq_false h4
        refine ⟨le_sz (by decide), ?_⟩
        have h5 : kind = 1 ∨ kind = 2 := by omega
        rcases h5 with rfl | rfl
        · refine ⟨_, rfl, t, c, k - 1, rfl, ht, hc, by omega, fun s hs hd => ⟨t, c, k - 1, rfl, ht, hc, by omega, fun u hu hd2 => ⟨le_sz (by decide), outK.same (q (.an s u) ⟨hs, hu⟩ (by simp only [syDep]; omega))⟩⟩⟩
        · refine ⟨_, rfl, t, c, k - 1, rfl, ht, hc, by omega, fun s hs hd => ⟨t, c, k - 1, rfl, ht, hc, by omega, fun u hu hd2 => ⟨le_sz (by decide), outK.same (q (.or s u) ⟨hs, hu⟩ (by simp only [syDep]; omega))⟩⟩⟩)
end
theorem sc_saying_in : FnScope ["count", "thing", "deep", "one", "part"] ["count", "thing", "deep"] (defScope s_saying_in) := ⟨rfl, rfl, rfl, by decide +kernel, rfl, by decide +kernel, by decide +kernel⟩
theorem ar_saying_in (n : Nat) : ∀ ds S Q E, sp_saying_in (n + 1) ds S Q E → ds.length = 3 := by
  rintro ds S Q E h
  simp only [sp_saying_in] at h
  obtain ⟨_, h⟩ := h
  repeat (first | (obtain ⟨rfl, _⟩ := h; rfl) | (obtain ⟨_, h⟩ := h))
section
variable {P : Program} {w : World} {K : PySem.W.Frag} {mg : Str → Option Value} {base : Heap}
theorem D_saying_in (A : Al K mg) : ∀ n : Nat, Def P w K mg base CX0 (4 + n) "saying_in" ["count", "thing", "deep"] (sp_saying_in n)
  | 0 => by
    obtain ⟨f, fd, Fu, hm, hb⟩ := fu_saying_in A
    exact ⟨f, fd, ⟨fun vs H Q E h => (by obtain ⟨_, _, _, _, _, _, _, h, _⟩ := h; exact h.elim), fun _ _ _ H _ _ vs Q E _ _ _ _ _ h => (by obtain ⟨_, _, _, _, _, _, _, h, _⟩ := h; exact h.elim)⟩, hm, Fu.kp, hb⟩
  | n + 1 => by
    have ih := D_saying_in A n
    obtain ⟨f, fd, Fu, hm, hb⟩ := fu_saying_in A
    refine ⟨f, fd, fn_d (k := 4 + n) Fu sc_saying_in (ar_saying_in n) (fun cdv A0 outer s0 H0 E0' hr => ⟨_, _,
      (db_cons (ds_if (dt_w (dw_or (dt_cmp (op_eqK K hr.units) ro_eq (de_var 2) de_int (nomark _)) (dw_or (dt_not (dt_val (de_callK (D_is_tuple A) (hr.mono (by omega)) pass0 rfl (da_cons (de_var 1) (da_cons de_int (da_cons de_int da_nil)))))) (dw_or1 (dt_not (dt_val (de_isiK K .str rfl A.b_isinstance (de_ixK K (de_var 1) de_int) A.b_str)))))))
        (db_one (ds_ret de_bl))
        db_nil)
      (db_cons (ds_if (dt_cmp (op_eqK K hr.units) ro_eq (de_cb (call_lenK K) roc_len rfl A.b_len (by decide +kernel) (da_cons (de_var 1) da_nil)) de_int (nomark _))
        (db_one (ds_ret (de_and (de_cmp (op_eqK K hr.units) ro_eq (de_ixK K (de_var 1) de_int) de_str (nomark _)) (de_one (de_callK (ih) (hr.mono (by omega)) pass0 rfl (da_cons (de_var 0) (da_cons (de_ixK K (de_var 1) de_int) (da_cons (de_op op_sub ro_I0 (de_var 2) de_int) da_nil))))))))
        db_nil)
      (db_cons (ds_if (dt_cmp (op_inK K) (ro_in false) (de_ixK K (de_var 1) de_int) (de_tup (da_cons de_str (da_cons de_str da_nil))) (by rfl))
        (db_one (ds_ret (de_callK (D_is_pair A) (hr.mono (by omega)) pass0 rfl (da_cons (de_var 0) (da_cons (de_slK K false (de_var 1) (do_some de_int) do_none) da_nil)))))
        db_nil)
      (db_cons (ds_if (dt_cmp (op_eqK K hr.units) ro_eq (de_ixK K (de_var 1) de_int) de_str (nomark _))
        (db_one (ds_ret (de_cb (cr_allK K rfl) roc_all rfl A.b_all (by decide +kernel) (da_cons (de_lc false [("one", 3)] rfl sc_saying_in.nd (di_seqK K (de_slK K false (de_var 1) (do_some de_int) do_none)) (blkOk_by (by kernel_rfl)) (fun _ _ _ _ _ => (dg_name (vs := [3]) 3 (by decide) sc_saying_in.nd)) (fun _ _ _ _ _ => dts_nil) (fun _ _ _ _ _ => (de_callK (D_is_within A) (hr.mono (by omega)) pass0 rfl (da_cons (de_var 3) (da_cons de_int (da_cons (de_op op_sub ro_I0 (de_var 0) de_int) da_nil)))))) da_nil))))
        db_nil)
      (db_one (ds_ret (de_and (de_cmp (op_inK K) (ro_in false) (de_ixK K (de_var 1) de_int) (de_tup (da_cons de_str (da_cons de_str da_nil))) (by rfl)) (de_one (de_cb (cr_allK K rfl) roc_all rfl A.b_all (by decide +kernel) (da_cons (de_lc false [("part", 4)] rfl sc_saying_in.nd (di_seqK K (de_slK K false (de_var 1) (do_some de_int) do_none)) (blkOk_by (by kernel_rfl)) (fun _ _ _ _ _ => (dg_name (vs := [4]) 4 (by decide) sc_saying_in.nd)) (fun _ _ _ _ _ => dts_nil) (fun _ _ _ _ _ => (de_callK (ih) (hr.mono (by omega)) pass0 rfl (da_cons (de_var 0) (da_cons (de_var 4) (da_cons (de_op op_sub ro_I0 (de_var 2) de_int) da_nil)))))) da_nil)))))))))),
      ?_⟩), hm, Fu.kp, hb⟩
    all_goals (
      rintro ds S Q Ed ⟨c, d, k, rfl, pd, hk, q⟩
      simp! [sp_is_tuple, pl_of_pu pd]
      by_cases hk0 : k = 0
      · subst hk0
        rw [if_pos (by decide)]
        exact outK.same q
      rw [if_neg (by simpa using hk0)]
      obtain ⟨m, rfl⟩ : ∃ m : Nat, k = m + 1 := ⟨(k - 1).toNat, by omega⟩
      rw [show ((m : Int) + 1).toNat = m + 1 by omega] at q
      obtain ⟨n', rfl⟩ : ∃ n', n = n' + 1 := ⟨n - 1, by omega⟩
      cases d <;> first | exact outK.same q | skip
      rename_i l
      match l with
      | [] => exact outK.same q
      | [x] => cases x <;> exact outK.same q
      | x :: y :: z :: u :: r =>
        rw [if_pos (by simp [isTup]; omega)]
        cases x <;> exact outK.same q
      | [x, y] =>
        have px : pu x = true := by simp only [pu_tup, pus, Bool.and_eq_true] at pd; exact pd.1
        have py : pu y = true := by simp only [pu_tup, pus, Bool.and_eq_true] at pd; exact pd.2.1
        rw [if_neg (by simp [isTup])]
        simp! [rd_pu px, pl_of_pu px]
        cases x <;> first | exact outK.same q | skip
        rename_i w
        simp! [show ((2 : Nat) : Int) = 2 from rfl, show ((3 : Nat) : Int) = 3 from rfl, show decide ((3 : Int) = 2) = false from rfl, show decide ((2 : Int) = 2) = true from rfl, okD_pstr px, eqD_str, sp_saying_in]
        refine ite_bl (fun h => ?_) (fun h => ?_)
        · refine ⟨py, by omega, by omega, ?_⟩
          simp only [sayIn, h, Bool.true_and] at q
          rw [show ((m : Int) + 1 - 1).toNat = m by omega]
          exact outK.same q
        · simp only [sayIn, h, Bool.false_and] at q
          exact outK.same q
      | [x, y, z] =>
        have px : pu x = true := by simp only [pu_tup, pus, Bool.and_eq_true] at pd; exact pd.1
        have py : pu y = true := by simp only [pu_tup, pus, Bool.and_eq_true] at pd; exact pd.2.1
        have pz : pu z = true := by simp only [pu_tup, pus, Bool.and_eq_true] at pd; exact pd.2.2.1
        rw [if_neg (by simp [isTup])]
        simp! [rd_pu px, pl_of_pu px]
        cases x <;> first | exact outK.same q | skip
        rename_i w
        have e1 : DL.cutD [.str w, y, z] (some 1) none = [y, z] := cutD_from (by decide)
        simp! [show ((2 : Nat) : Int) = 2 from rfl, show ((3 : Nat) : Int) = 3 from rfl, show decide ((3 : Int) = 2) = false from rfl, show decide ((2 : Int) = 2) = true from rfl, okD_pstr px, eqD_str, sp_is_pair, e1, flat_str]
        repeat (refine And.intro (by first | assumption | rfl | (rw [sizeLine_eq] ; simp only [List.length_append, List.length_cons, List.length_nil, List.length_map, List.length_replicate, rep_len] ; omega) | (simp only [List.length_append, List.length_cons, List.length_nil, List.length_map, List.length_replicate, rep_len] ; omega) | omega | (rw [sizeLine_eq] ; omega)) ?_)
        refine ite_bl (fun h => ?_) (fun h => ?_)
        · have h' : w = "ahead" ∨ w = "next" := by
            simp only [Bool.or_eq_true, decide_eq_true_eq] at h
            rcases h with h | h
            · exact .inl h.symm
            · exact .inr h.symm
          simp only [sayIn, if_pos h'] at q
          exact ⟨py, pz, outK.same q⟩
        have h' : ¬ (w = "ahead" ∨ w = "next") := by
          simp only [Bool.or_eq_false_iff, decide_eq_false_iff_not] at h
          rintro (e | e)
          · exact h.1 e.symm
          · exact h.2 e.symm
        simp only [sayIn, if_neg h'] at q
        refine ite_bl (fun h2 => ?_) (fun h2 => ?_)
        · rw [if_pos (of_decide_eq_true h2)] at q
          refine compAllTo (ds := [y, z]) [isWithin y 0 (c - 1), isWithin z 0 (c - 1)] rfl noG_any (le_sz (by simp)) (fun i d b h3 h4 S' sub N hN => ?_) ?_
          · match i with
            | 0 =>
              cases h3
              cases h4
              simp! [sp_is_within, rd_pu py, pl_of_pu py]
              exact hN
            | 1 =>
              cases h3
              cases h4
              simp! [sp_is_within, rd_pu pz, pl_of_pu pz]
              exact hN
            | n + 2 => cases h3
          · refine outK.same ?_
            simpa using q
        rw [if_neg (of_decide_eq_false h2)] at q
        repeat (refine And.intro (by first | assumption | rfl | (rw [sizeLine_eq] ; simp only [List.length_append, List.length_cons, List.length_nil, List.length_map, List.length_replicate, rep_len] ; omega) | (simp only [List.length_append, List.length_cons, List.length_nil, List.length_map, List.length_replicate, rep_len] ; omega) | omega | (rw [sizeLine_eq] ; omega)) ?_)
        refine ite_bl (fun h5 => ?_) (fun h5 => ?_)
        · have h6 : w = "and" ∨ w = "or" := by
            simp only [Bool.or_eq_true, decide_eq_true_eq] at h5
            rcases h5 with h | h
            · exact .inl h.symm
            · exact .inr h.symm
          rw [if_pos h6] at q
          refine compAllTo (ds := [y, z]) [sayIn c m y, sayIn c m z] rfl noG_any (le_sz (by simp)) (fun i d b h3 h4 S' sub N hN => ?_) ?_
          · match i with
            | 0 =>
              cases h3
              cases h4
              simp! [sp_saying_in, rd_pu py]
              refine ⟨py, by omega, by omega, ?_⟩
              rw [show ((m : Int) + 1 - 1).toNat = m by omega]
              exact hN
            | 1 =>
              cases h3
              cases h4
              simp! [sp_saying_in, rd_pu pz]
              refine ⟨pz, by omega, by omega, ?_⟩
              rw [show ((m : Int) + 1 - 1).toNat = m by omega]
              exact hN
            | n + 2 => cases h3
          · refine outK.same ?_
            simpa using q
        · have h6 : ¬ (w = "and" ∨ w = "or") := by
            simp only [Bool.or_eq_false_iff, decide_eq_false_iff_not] at h5
            rintro (e | e)
            · exact h5.1 e.symm
            · exact h5.2 e.symm
          rw [if_neg h6] at q
          exact outK.same q)
end
theorem sc_check_saying : FnScope ["book", "saying"] ["book", "saying"] (defScope s_check_saying) := ⟨rfl, rfl, rfl, by decide +kernel, rfl, by decide +kernel, by decide +kernel⟩
theorem ar_check_saying : ∀ ds S Q E, sp_check_saying ds S Q E → ds.length = 2 := by
  rintro ds S Q E h
  simp only [sp_check_saying] at h
  obtain ⟨_, h⟩ := h
  repeat (first | (obtain ⟨rfl, _⟩ := h; rfl) | (obtain ⟨_, h⟩ := h))
section
variable {P : Program} {w : World} {K : PySem.W.Frag} {mg : Str → Option Value} {base : Heap}
theorem O_check_saying (A : Al K mg) {f : Addr} {fd : FuncData} (Fu : FunD K "check_saying" "check_saying" (defArgs s_check_saying) (defBody s_check_saying) (defScope s_check_saying) [] [] f fd) : FnG P w K mg base CX0 13 f fd ["book", "saying"] (spD K sp_check_saying) := by
  refine fn_d Fu sc_check_saying ar_check_saying (fun cdv A0 outer s0 H0 E0' hr => ⟨_, _,
      (db_one (ds_if (dt_not (dt_val (de_callK (D_saying_in A 8) (hr.mono (by omega)) pass0 rfl (da_cons (de_fld K A.cls_Book A.na_Book_count (de_var 0)) (da_cons (de_var 1) (da_cons (de_gint rfl A.c_DEEPEST) da_nil))))))
        (db_one ds_never)
        db_nil)),
      ?_⟩)
  all_goals (
    rintro ds S Q Ed ⟨x, b, s, rfl, ⟨L, hx⟩, hs, hd, q⟩
    simp! [hx, f_count, D.obj.injEq, sp_saying_in]
    refine ⟨syD_pu s, by omega, by omega, ?_⟩
    rw [if_neg (by rw [show Int.toNat 6 = 6 from rfl, syD_in hs 6 (by omega)]; decide)]
    exact outK.same q)
theorem D_check_saying (A : Al K mg) : Def P w K mg base CX0 13 "check_saying" ["book", "saying"] sp_check_saying := by
  obtain ⟨f, fd, Fu, hm, hb⟩ := fu_check_saying A
  exact ⟨f, fd, O_check_saying A Fu, hm, Fu.kp, hb⟩
end
theorem sc_always : FnScope ["book", "saying", "every", "some", "order"] ["book", "saying"] (defScope s_always) := ⟨rfl, rfl, rfl, by decide +kernel, rfl, by decide +kernel, by decide +kernel⟩
theorem ar_always : ∀ ds S Q E, sp_always ds S Q E → ds.length = 2 := by
  rintro ds S Q E h
  simp only [sp_always] at h
  obtain ⟨_, h⟩ := h
  repeat (first | (obtain ⟨rfl, _⟩ := h; rfl) | (obtain ⟨_, h⟩ := h))
section
variable {P : Program} {w : World} {K : PySem.W.Frag} {mg : Str → Option Value} {base : Heap}
theorem O_always (A : Al K mg) {f : Addr} {fd : FuncData} (Fu : FunD K "always" "always" (defArgs s_always) (defBody s_always) (defScope s_always) [] [] f fd) : FnG P w K mg base CX0 14 f fd ["book", "saying"] (spD K sp_always) := by
  refine fn_d Fu sc_always ar_always (fun cdv A0 outer s0 H0 E0' hr => ⟨_, _,
      (db_cons (ds_expr (de_callK (D_check_saying A) (hr.mono (by omega)) pass0 rfl (da_cons (de_var 0) (da_cons (de_var 1) da_nil))))
      (db_cons (ds_par 2 3 rfl sc_always.nd (by decide) (da_cons (de_callK (D_fitting A) (hr.mono (by omega)) pass0 rfl (da_cons (de_var 0) da_nil)) (da_cons (de_callK (D_those_so A) (hr.mono (by omega)) pass0 rfl (da_cons (de_var 0) (da_cons (de_var 1) da_nil))) da_nil)))
      (db_cons (ds_if (dt_cmp (op_eqK K hr.units) ro_eq (de_cb (call_lenK K) roc_len rfl A.b_len (by decide +kernel) (da_cons (de_var 2) da_nil)) de_int (nomark _))
        (db_one (ds_ret (de_tup (da_cons de_str da_nil))))
        db_nil)
      (db_cons (ds_if (dt_cmp (op_eqK K hr.units) ro_eq (de_cb (call_lenK K) roc_len rfl A.b_len (by decide +kernel) (da_cons (de_var 3) da_nil)) de_int (nomark _))
        (db_one (ds_ret (de_tup (da_cons de_str da_nil))))
        db_nil)
      (db_cons (ds_if (dt_cmp (op_eqK K hr.units) ro_eq (de_cb (call_lenK K) roc_len rfl A.b_len (by decide +kernel) (da_cons (de_var 3) da_nil)) (de_cb (call_lenK K) roc_len rfl A.b_len (by decide +kernel) (da_cons (de_var 2) da_nil)) (nomark _))
        (db_one (ds_ret (de_tup (da_cons de_str da_nil))))
        db_nil)
      (db_one (ds_ret (de_tup (da_cons de_str (da_cons (de_ixK K (de_var 3) de_int) (da_cons (de_ixK K (de_lc false [("order", 4)] rfl sc_always.nd (di_seqK K (de_var 2)) (blkOk_by (by kernel_rfl)) (fun _ _ _ _ _ => (dg_name (vs := [4]) 4 (by decide) sc_always.nd)) (fun _ _ _ _ _ => (dts_one (dt_not (dt_val (de_callK (D_is_so A 7) (hr.mono (by omega)) pass0 rfl (da_cons (de_var 1) (da_cons (de_var 4) da_nil))))))) (fun _ _ _ _ _ => (de_var 4))) de_int) da_nil))))))))))),
      ?_⟩)
  all_goals (
    rintro ds S Q Ed ⟨a, d, b, m, s, rfl, hm, hb, hc, hz, hs, hd, q⟩
    have fl := fits_le hb hc
    simp! [wPar]
    refine ⟨.ref a, b, s, rfl, ⟨_, rd_ins hm.1⟩, hs, hd, ?_⟩
    refine ⟨a, d, b, m, rfl, hm, hb, hc, hz, ?_⟩
    have ad : a ≠ d := fun e => by
      have h1 := hm.1
      rw [e, hm.2] at h1
      cases m <;> cases h1
    have hm2 : BkM (S.set d (memoM b true)) a d b true := ⟨(MS.set_ne ad).trans hm.1, MS.set_same⟩
    refine ⟨a, d, b, true, s, rfl, hm2, hb, hc, hz, hs, hd, ?_⟩
    rw [MS.set_set]
    simp! [List.length_map]
    unfold alwD at q
    by_cases h1 : fits b = []
    · rw [if_pos h1] at q
      rw [if_pos (by rw [h1]; rfl)]
      exact ⟨le_sz (by decide), outK.same q⟩
    rw [if_neg h1] at q
    have p1 : 0 < (fits b).length := List.length_pos_iff.mpr h1
    rw [if_neg (by rw [decide_eq_true_eq]; omega)]
    by_cases h2 : soL b s = []
    · rw [if_pos h2] at q
      rw [if_pos (by rw [h2]; rfl)]
      exact ⟨le_sz (by decide), outK.same q⟩
    rw [if_neg h2] at q
    have p2 : 0 < (soL b s).length := List.length_pos_iff.mpr h2
    rw [if_neg (by rw [decide_eq_true_eq]; omega)]
    by_cases h3 : (fits b).filter (fun o => !soS o s) = []
    · have h4 : soL b s = fits b := List.filter_eq_self.mpr fun o ho => by
        have := List.filter_eq_nil_iff.mp h3 o ho
        simpa using this
      rw [h3] at q
      rw [if_pos (by rw [h4]; simp)]
      refine ⟨le_sz (by decide), outK.same ?_⟩
      cases e : soL b s with
      | nil => exact absurd e h2
      | cons x xs => rw [e] at q; exact q
    · have h4 : (soL b s).length ≠ (fits b).length := fun e => h3 (List.filter_eq_nil_iff.mpr fun o ho => by
        have := List.length_filter_eq_length_iff.mp e o ho
        simpa using this)
      rw [if_neg (by rw [decide_eq_true_eq]; omega)]
      cases e : soL b s with
      | nil => exact absurd e h2
      | cons x xs =>
        cases e2 : (fits b).filter (fun o => !soS o s) with
        | nil => exact absurd e2 h3
        | cons u us =>
          rw [e, e2] at q
          simp! []
          refine compL_fm (h := tupI) (fun o => !soS o s) noG_any (le_sz (by omega)) (fun o ho S2 sub N M hN hM => ?_) ?_
          · simp! []
            exact ⟨b.count, s, o, rfl, hs, fits_perm hb ho, by show syDep s ≤ (6 : Nat); omega, _, rfl, ite_bl hN hM⟩
          rw [e2]
          simp! []
          exact ⟨le_sz (by decide), outK.same q⟩)
theorem D_always (A : Al K mg) : Def P w K mg base CX0 14 "always" ["book", "saying"] sp_always := by
  obtain ⟨f, fd, Fu, hm, hb⟩ := fu_always A
  exact ⟨f, fd, O_always A Fu, hm, Fu.kp, hb⟩
end
theorem sc_same_saying : FnScope ["book", "one", "other", "order"] ["book", "one", "other"] (defScope s_same_saying) := ⟨rfl, rfl, rfl, by decide +kernel, rfl, by decide +kernel, by decide +kernel⟩
theorem ar_same_saying : ∀ ds S Q E, sp_same_saying ds S Q E → ds.length = 3 := by
  rintro ds S Q E h
  simp only [sp_same_saying] at h
  obtain ⟨_, h⟩ := h
  repeat (first | (obtain ⟨rfl, _⟩ := h; rfl) | (obtain ⟨_, h⟩ := h))
section
variable {P : Program} {w : World} {K : PySem.W.Frag} {mg : Str → Option Value} {base : Heap}
theorem O_same_saying (A : Al K mg) {f : Addr} {fd : FuncData} (Fu : FunD K "same_saying" "same_saying" (defArgs s_same_saying) (defBody s_same_saying) (defScope s_same_saying) [] [] f fd) : FnG P w K mg base CX0 14 f fd ["book", "one", "other"] (spD K sp_same_saying) := by
  refine fn_d Fu sc_same_saying ar_same_saying (fun cdv A0 outer s0 H0 E0' hr => ⟨_, _,
      (db_cons (ds_expr (de_callK (D_check_saying A) (hr.mono (by omega)) pass0 rfl (da_cons (de_var 0) (da_cons (de_var 1) da_nil))))
      (db_cons (ds_expr (de_callK (D_check_saying A) (hr.mono (by omega)) pass0 rfl (da_cons (de_var 0) (da_cons (de_var 2) da_nil))))
      (db_cons (ds_for (vs := [3]) PassesOwn.never rfl (di_seqK K (de_callK (D_fitting A) (hr.mono (by omega)) pass0 rfl (da_cons (de_var 0) da_nil))) (dg_name (vs := [3]) 3 (by decide) sc_same_saying.nd)
        (db_one (ds_if (dt_cmp (op_neK K hr.units) ro_ne (de_callK (D_is_so A 7) (hr.mono (by omega)) pass0 rfl (da_cons (de_var 1) (da_cons (de_var 3) da_nil))) (de_callK (D_is_so A 7) (hr.mono (by omega)) pass0 rfl (da_cons (de_var 2) (da_cons (de_var 3) da_nil))) (nomark _))
          (db_one (ds_ret (de_var 3)))
          db_nil)))
      (db_one (ds_ret de_non))))),
      ?_⟩)
  all_goals (
    rintro ds S Q Ed ⟨a, d, b, m, s, u, rfl, hm, hb, hc, hz, hs, hd, hu, hdu, q⟩
    have st : ∀ (S : MS) (u : Sy), rd S (syD u) = syD u := fun S u => rd_pu (syD_pu u)
    simp! []
    refine ⟨.ref a, b, s, rfl, ⟨_, rd_ins hm.1⟩, hs, hd, ⟨.ref a, b, u, rfl, ⟨_, rd_ins hm.1⟩, hu, hdu, ⟨a, d, b, m, rfl, hm, hb, hc, hz, ?_⟩⟩⟩
    simp! []
    refine forW_n (fun i ρ S' => S' = S.set d (memoM b true) ∧ (∀ o ∈ (fits b).take i, (soS o s != soS o u) = false) ∧ ∃ z3, ρ = [some (.ref a), some (syD s), some (syD u), z3]) (fun _ _ _ _ => trivial) (fun i e ρ S' hd h N hN => ?hs) (fun ρ S' h => ?hd) ⟨rfl, fun _ h => (nomatch h), _, rfl⟩
    case hd =>
      obtain ⟨rfl, hall, z3, rfl⟩ := h
      rw [List.length_map, List.take_length] at hall
      rw [find_miss hall] at q
      simp! []
      exact outK.same q
    case hs =>
      obtain ⟨rfl, hall, z3, rfl⟩ := h
      obtain ⟨o, ho, rfl⟩ := map_get hd
      have hop := fits_perm hb (List.mem_of_getElem? ho)
      simp! [st]
      refine ⟨b.count, s, o, rfl, hs, hop, by show syDep s ≤ (6 : Nat); omega, b.count, u, o, rfl, hu, hop, by show syDep u ≤ (6 : Nat); omega, ?_⟩
      simp! []
      refine ite_bl (fun h => outK.same ?_) (fun h => hN _ _ ⟨rfl, take_step hall ho h, _, rfl⟩)
      rw [find_hit hall ho h] at q
      exact q)
theorem D_same_saying (A : Al K mg) : Def P w K mg base CX0 14 "same_saying" ["book", "one", "other"] sp_same_saying := by
  obtain ⟨f, fd, Fu, hm, hb⟩ := fu_same_saying A
  exact ⟨f, fd, O_same_saying A Fu, hm, Fu.kp, hb⟩
end
theorem sc_follows_so : FnScope ["book", "some", "saying", "number", "one", "order"] ["book", "some", "saying"] (defScope s_follows_so) := ⟨rfl, rfl, rfl, by decide +kernel, rfl, by decide +kernel, by decide +kernel⟩
theorem ar_follows_so : ∀ ds S Q E, sp_follows_so ds S Q E → ds.length = 3 := by
  rintro ds S Q E h
  simp only [sp_follows_so] at h
  obtain ⟨_, h⟩ := h
  repeat (first | (obtain ⟨rfl, _⟩ := h; rfl) | (obtain ⟨_, h⟩ := h))
section
variable {P : Program} {w : World} {K : PySem.W.Frag} {mg : Str → Option Value} {base : Heap}
theorem O_follows_so (A : Al K mg) {f : Addr} {fd : FuncData} (Fu : FunD K "follows_so" "follows_so" (defArgs s_follows_so) (defBody s_follows_so) (defScope s_follows_so) [] [] f fd) : FnG P w K mg base CX0 14 f fd ["book", "some", "saying"] (spD K sp_follows_so) := by
  refine fn_d Fu sc_follows_so ar_follows_so (fun cdv A0 outer s0 H0 E0' hr => ⟨_, _,
      (db_cons (ds_if (dt_not (dt_val (de_callK (D_is_row A) (hr.mono (by omega)) pass0 rfl (da_cons (de_var 1) (da_cons de_int (da_cons (de_gint rfl A.c_MOST_SAYINGS) da_nil))))))
        (db_one ds_never)
        db_nil)
      (db_cons (ds_for (vs := [3, 4]) PassesOwn.never rfl (di_enumK K rfl A.b_enumerate (da_cons (de_var 1) da_nil)) (dg_tupK K (n := 2) rfl (dgs_cons (dg_name (vs := [3, 4]) 3 (by decide) sc_follows_so.nd) (dgs_cons (dg_name (vs := [3, 4]) 4 (by decide) sc_follows_so.nd) dgs_nil)))
        (db_one (ds_if (dt_not (dt_val (de_callK (D_saying_in A 8) (hr.mono (by omega)) pass0 rfl (da_cons (de_fld K A.cls_Book A.na_Book_count (de_var 0)) (da_cons (de_var 4) (da_cons (de_gint rfl A.c_DEEPEST) da_nil))))))
          (db_one ds_never)
          db_nil)))
      (db_cons (ds_expr (de_callK (D_check_saying A) (hr.mono (by omega)) pass0 rfl (da_cons (de_var 0) (da_cons (de_var 2) da_nil))))
      (db_cons (ds_for (vs := [5]) PassesOwn.never rfl (di_seqK K (de_callK (D_fitting A) (hr.mono (by omega)) pass0 rfl (da_cons (de_var 0) da_nil))) (dg_name (vs := [5]) 5 (by decide) sc_follows_so.nd)
        (db_one (ds_if (dt_w (dw_and (dt_val (de_cb (cr_allK K rfl) roc_all rfl A.b_all (by decide +kernel) (da_cons (de_lc false [("one", 4)] rfl sc_follows_so.nd (di_seqK K (de_var 1)) (blkOk_by (by kernel_rfl)) (fun _ _ _ _ _ => (dg_name (vs := [4]) 4 (by decide) sc_follows_so.nd)) (fun _ _ _ _ _ => dts_nil) (fun _ _ _ _ _ => (de_callK (D_is_so A 7) (hr.mono (by omega)) pass0 rfl (da_cons (de_var 4) (da_cons (de_var 5) da_nil))))) da_nil))) (dw_and1 (dt_not (dt_val (de_callK (D_is_so A 7) (hr.mono (by omega)) pass0 rfl (da_cons (de_var 2) (da_cons (de_var 5) da_nil))))))))
          (db_one (ds_ret (de_var 5)))
          db_nil)))
      (db_one (ds_ret de_non)))))),
      ?_⟩)
  all_goals (
    rintro ds S Q Ed ⟨a, d, b, m, x, ss, s, rfl, hx, hm, hb, hc, hz, hl, hss, hs, hd, q⟩
    have st : ∀ (S : MS) (u : Sy), rd S (syD u) = syD u := fun S u => rd_pu (syD_pu u)
    rcases hx with rfl | rfl
    all_goals
      simp! []
      refine ⟨_, ss.map syD, 0, 6, rfl, by first | exact .inl rfl | exact .inr rfl, ?_⟩
      refine ⟨_, rfl, ?_⟩
      rw [if_neg (by rw [List.length_map, decide_eq_true (show (0 : Int) ≤ (ss.length : Int) by omega), decide_eq_true (show (ss.length : Int) ≤ 6 by omega)]; decide)]
      refine forW_n (fun i ρ S' => S' = S ∧ ∃ y z3 z4, (y = .tup (ss.map syD) ∨ y = .lst (ss.map syD)) ∧ ρ = [some (.ref a), some y, some (syD s), z3, z4, none]) (fun _ _ _ _ => trivial) (fun i e ρ S' hde h N hN => ?hs) (fun ρ S' h => ?hd) ⟨rfl, _, _, _, by first | exact .inl rfl | exact .inr rfl, rfl⟩
      case hs =>
        obtain ⟨rfl, y, z3, z4, hy, rfl⟩ := h
        obtain ⟨j, hj, rfl⟩ := enumD_mem (List.mem_of_getElem? hde)
        rw [List.length_map] at hj
        rw [getD_map hj]
        have hu := hss ss[j] (List.getElem_mem hj)
        simp! [st, rd_ins hm.1, f_count, D.obj.injEq]
        refine ⟨b.count, _, 6, rfl, syD_pu _, ⟨by decide, by decide⟩, ?_⟩
        refine ⟨_, rfl, ?_⟩
        rw [if_neg (by rw [show Int.toNat 6 = 6 from rfl, syD_in hu.1 6 (by omega)]; decide)]
        exact hN _ _ ⟨rfl, _, _, _, hy, rfl⟩
      case hd =>
        obtain ⟨rfl, y, z3, z4, hy, rfl⟩ := h
        simp! []
        refine ⟨.ref a, b, s, rfl, ⟨_, rd_ins hm.1⟩, hs, hd, a, d, b, m, rfl, hm, hb, hc, hz, ?_⟩
        simp! []
        refine forW_n (fun i ρ S2 => S2 = S'.set d (memoM b true) ∧ (∀ o ∈ (fits b).take i, folP ss s o = false) ∧ ∃ z3 z4 z5, ρ = [some (.ref a), some y, some (syD s), z3, z4, z5]) (fun _ _ _ _ => trivial) (fun i e ρ S2 hde h N hN => ?hs2) (fun ρ S2 h => ?hd2) ⟨rfl, fun _ h => (nomatch h), _, _, _, rfl⟩
        case hd2 =>
          obtain ⟨rfl, hall, z3, z4, z5, rfl⟩ := h
          rw [List.length_map, List.take_length] at hall
          rw [find_miss hall] at q
          simp! []
          exact outK.same q
        case hs2 =>
          obtain ⟨rfl, hall, z3, z4, z5, rfl⟩ := h
          obtain ⟨o, ho, rfl⟩ := map_get hde
          have hop := fits_perm hb (List.mem_of_getElem? ho)
          have key : ∀ R : KV2, R (.bl (ss.all fun u => soS o u)) (S'.set d (memoM b true)) → ∀ ρ z, ρ = [some (.ref a), some y, some (syD s), z3, z, some (tupI o)] → ∀ c, (S'.set d (memoM b true)) c = none → compW c noG (wgName 4) wYes (wCall (sp_is_so 7) (wCons (wVar 4) (wCons (wVar 5) wNil))) (fun S2 => endL false c S2 fun d S3 => cAll (rd S3 d) S3 R) ρ (ss.map syD) ((S'.set d (memoM b true)).set c (MO.lst [])) := by
            rintro R hR _ z rfl
            refine compAllM (fun u => soS o u) noG_any (le_sz (by omega)) (fun u hu S2 sub N hN => ?_) hR
            have hu2 := hss u hu
            simp! [st]
            exact ⟨b.count, u, o, rfl, hu2.1, hop, by show syDep u ≤ (6 : Nat); omega, hN⟩
          rcases hy with rfl | rfl
          all_goals
            simp! [st]
            refine key _ ?_ _ _ rfl
            refine ⟨_, rfl, ite_bl (fun h1 => ⟨b.count, s, o, rfl, hs, hop, by show syDep s ≤ (6 : Nat); omega, _, rfl, ite_bl (fun h2 => outK.same ?_) (fun h2 => hN _ _ ⟨rfl, take_step hall ho ?_, _, _, _, rfl⟩)⟩) (fun h1 => hN _ _ ⟨rfl, take_step hall ho ?_, _, _, _, rfl⟩)⟩
            · rw [find_hit hall ho (by unfold folP; rw [h1, h2]; rfl)] at q
              exact q
            · unfold folP; rw [h1, h2]; rfl
            · unfold folP; rw [h1]; rfl)
theorem D_follows_so (A : Al K mg) : Def P w K mg base CX0 14 "follows_so" ["book", "some", "saying"] sp_follows_so := by
  obtain ⟨f, fd, Fu, hm, hb⟩ := fu_follows_so A
  exact ⟨f, fd, O_follows_so A Fu, hm, Fu.kp, hb⟩
end
theorem sc_law : FnScope ["script", "hand", "known", "turn", "spec", "fine", "book", "one", "other", "parted", "due", "both", "some", "last", "rest", "told", "order", "again", "saying"] ["script"] (defScope s_law) := ⟨rfl, rfl, rfl, by decide +kernel, rfl, by decide +kernel, by decide +kernel⟩
theorem ar_law : ∀ ds S Q E, sp_law ds S Q E → ds.length = 1 := by
  rintro ds S Q E h
  simp only [sp_law] at h
  obtain ⟨_, h⟩ := h
  repeat (first | (obtain ⟨rfl, _⟩ := h; rfl) | (obtain ⟨_, h⟩ := h))
section
variable {P : Program} {w : World} {K : PySem.W.Frag} {mg : Str → Option Value} {base : Heap}
theorem O_law (A : Al K mg) {f : Addr} {fd : FuncData} (Fu : FunD K "law" "law" (defArgs s_law) (defBody s_law) (defScope s_law) [] [] f fd) : FnG P w K mg base CX0 15 f fd ["script"] (spD K sp_law) := by
  refine fn_d Fu sc_law ar_law (fun cdv A0 outer s0 H0 E0' hr => ⟨_, _,
      (db_cons (ds_set 1 sc_law.nd (de_callK (V__law_hand A) (hr.mono (by omega)) pass0 rfl (da_cons (de_var 0) da_nil)))
      (db_cons (ds_set 2 sc_law.nd (de_make true A.mk_Book (D_Book___init__ A) (hr.mono (by omega)) pass0 rfl A.g_Book (da_cons de_int (da_cons (de_tup (da_cons (de_tup (da_cons de_int (da_cons de_int da_nil))) da_nil)) (da_cons (de_op (op_mulK K) (ro_mul false) (de_tup (da_cons (de_tup (da_cons de_non (da_cons de_non da_nil))) da_nil)) de_int) (da_cons (de_tup da_nil) da_nil))))))
      (db_cons (ds_if (dt_cmp op_notN ro_notN (de_callK (D_same_saying A) (hr.mono (by omega)) pass0 rfl (da_cons (de_var 2) (da_cons (de_tup (da_cons de_str (da_cons de_int (da_cons de_int da_nil)))) (da_cons (de_tup (da_cons de_str (da_cons (de_tup (da_cons de_str (da_cons de_int (da_cons de_int da_nil)))) da_nil))) da_nil)))) de_non (nomark _))
        (db_one (ds_ret de_bl))
        db_nil)
      (db_cons (ds_if (dt_cmp op_notN ro_notN (de_callK (D_same_saying A) (hr.mono (by omega)) pass0 rfl (da_cons (de_var 2) (da_cons (de_tup (da_cons de_str (da_cons de_int (da_cons de_int da_nil)))) (da_cons (de_tup (da_cons de_str (da_cons de_int (da_cons de_int da_nil)))) da_nil)))) de_non (nomark _))
        (db_one (ds_ret de_bl))
        db_nil)
      (db_cons (ds_if (dt_cmp (op_neK K hr.units) ro_ne (de_callK (D_follows_so A) (hr.mono (by omega)) pass0 rfl (da_cons (de_var 2) (da_cons (de_tup da_nil) (da_cons (de_tup (da_cons de_str (da_cons de_int (da_cons de_int da_nil)))) da_nil)))) (de_tup (da_cons de_int (da_cons de_int (da_cons de_int da_nil)))) (nomark _))
        (db_one (ds_ret de_bl))
        db_nil)
      (db_cons (ds_for (vs := [3]) PassesOwn.never rfl (di_range1 rfl A.b_range (da_cons de_int da_nil)) (dg_name (vs := [3]) 3 (by decide) sc_law.nd)
        (db_cons (ds_asg (vs := [4, 5, 6]) (de_callK (D__law_case A) (hr.mono (by omega)) pass0 rfl (da_cons (de_var 1) (da_cons de_int (da_cons de_int da_nil)))) (dg_tupK K (n := 3) rfl (dgs_cons (dg_name (vs := [4, 5, 6]) 4 (by decide) sc_law.nd) (dgs_cons (dg_name (vs := [4, 5, 6]) 5 (by decide) sc_law.nd) (dgs_cons (dg_name (vs := [4, 5, 6]) 6 (by decide) sc_law.nd) dgs_nil)))))
        (db_cons (ds_set 7 sc_law.nd (de_callK (D__law_saying A 8) (hr.mono (by omega)) pass0 rfl (da_cons (de_var 1) (da_cons (de_ixK K (de_var 4) de_int) (da_cons de_int da_nil)))))
        (db_cons (ds_set 8 sc_law.nd (de_callK (D__law_some A) (hr.mono (by omega)) pass0 rfl (da_cons (de_var 1) (da_cons (de_lst false (da_cons (de_callK (D__law_saying A 8) (hr.mono (by omega)) pass0 rfl (da_cons (de_var 1) (da_cons (de_ixK K (de_var 4) de_int) (da_cons de_int da_nil)))) (da_cons (de_callK (D__law_turned A) (hr.mono (by omega)) pass0 rfl (da_cons (de_var 1) (da_cons (de_var 7) da_nil))) (da_cons (de_callK (D__law_turned A) (hr.mono (by omega)) pass0 rfl (da_cons (de_var 1) (da_cons (de_var 7) da_nil))) da_nil)))) da_nil))))
        (db_cons (ds_setLc false 9 [("order", 16)] rfl sc_law.nd (di_seqK K (de_var 5)) (blkOk_by (by kernel_rfl)) (fun _ _ _ _ _ => (dg_name (vs := [16]) 16 (by decide) sc_law.nd)) (fun _ _ _ _ _ => (dts_one (dt_cmp (op_neK K hr.units) ro_ne (de_callK (D__law_so A 7) (hr.mono (by omega)) pass0 rfl (da_cons (de_var 7) (da_cons (de_var 16) da_nil))) (de_callK (D__law_so A 7) (hr.mono (by omega)) pass0 rfl (da_cons (de_var 8) (da_cons (de_var 16) da_nil))) (nomark _)))) (fun _ _ _ _ _ => (de_var 16)))
        (db_cons (ds_set 10 sc_law.nd (de_if (dt_cmp (op_neK K hr.units) ro_ne (de_var 9) (de_lst false da_nil) (nomark _)) (de_ixK K (de_var 9) de_int) de_non))
        (db_cons (ds_if (dt_w (dw_or (dt_not (dt_val (de_callK (D__law_is A 6) (hr.mono (by omega)) pass0 rfl (da_cons (de_callK (D_same_saying A) (hr.mono (by omega)) pass0 rfl (da_cons (de_var 6) (da_cons (de_var 7) (da_cons (de_var 8) da_nil)))) (da_cons (de_var 10) da_nil))))) (dw_or1 (dt_not (dt_val (de_callK (D__law_is A 6) (hr.mono (by omega)) pass0 rfl (da_cons (de_callK (D_same_saying A) (hr.mono (by omega)) pass0 rfl (da_cons (de_var 6) (da_cons (de_var 8) (da_cons (de_var 7) da_nil)))) (da_cons (de_var 10) da_nil))))))))
          (db_one (ds_ret de_bl))
          db_nil)
        (db_cons (ds_set 11 sc_law.nd (de_lst false (da_cons (de_callK (D_follows_so A) (hr.mono (by omega)) pass0 rfl (da_cons (de_var 6) (da_cons (de_tup (da_cons (de_var 7) da_nil)) (da_cons (de_var 8) da_nil)))) (da_cons (de_callK (D_follows_so A) (hr.mono (by omega)) pass0 rfl (da_cons (de_var 6) (da_cons (de_lst false (da_cons (de_var 8) da_nil)) (da_cons (de_var 7) da_nil)))) da_nil))))
        (db_cons (ds_if (dt_w (dw_or (dt_cmp (op_neK K hr.units) ro_ne (de_cmp (op_eqK K hr.units) ro_eq (de_var 11) (de_lst false (da_cons de_non (da_cons de_non da_nil))) (nomark _)) (de_cmp op_isN ro_isN (de_var 10) de_non (nomark _)) (nomark _)) (dw_or1 (dt_w (dw_and (dt_cmp op_notN ro_notN (de_var 10) de_non (nomark _)) (dw_and1 (dt_cmp (op_notInA K hr.units65) (ro_inA true) (de_var 10) (de_var 11) (by rfl))))))))
          (db_one (ds_ret de_bl))
          db_nil)
        (db_cons (ds_set 12 sc_law.nd (de_lc false [("again", 17)] rfl sc_law.nd (di_range1 rfl A.b_range (da_cons (de_callK (V__law_draw A) (hr.mono (by omega)) pass0 rfl (da_cons (de_var 1) (da_cons de_int da_nil))) da_nil)) (blkOk_by (by kernel_rfl)) (fun _ _ _ _ _ => (dg_name (vs := [17]) 17 (by decide) sc_law.nd)) (fun _ _ _ _ _ => dts_nil) (fun _ _ _ _ _ => (de_callK (D__law_saying A 8) (hr.mono (by omega)) pass0 rfl (da_cons (de_var 1) (da_cons (de_ixK K (de_var 4) de_int) (da_cons de_int da_nil)))))))
        (db_cons (ds_set 13 sc_law.nd (de_callK (D__law_some A) (hr.mono (by omega)) pass0 rfl (da_cons (de_var 1) (da_cons (de_op (op_addK K) (ro_add false) (de_var 12) (de_lst false (da_cons (de_var 7) (da_cons (de_var 8) da_nil)))) da_nil))))
        (db_cons (ds_setLc false 14 [("order", 16)] rfl sc_law.nd (di_seqK K (de_var 5)) (blkOk_by (by kernel_rfl)) (fun _ _ _ _ _ => (dg_name (vs := [16]) 16 (by decide) sc_law.nd)) (fun _ _ _ _ _ => (dts_one (dt_val (de_cb (cr_allK K rfl) roc_all rfl A.b_all (by decide +kernel) (da_cons (de_lc false [("saying", 18)] rfl sc_law.nd (di_seqK K (de_var 12)) (blkOk_by (by kernel_rfl)) (fun _ _ _ _ _ => (dg_name (vs := [18]) 18 (by decide) sc_law.nd)) (fun _ _ _ _ _ => dts_nil) (fun _ _ _ _ _ => (de_callK (D__law_so A 7) (hr.mono (by omega)) pass0 rfl (da_cons (de_var 18) (da_cons (de_var 16) da_nil))))) da_nil))))) (fun _ _ _ _ _ => (de_var 16)))
        (db_cons (ds_setLc false 14 [("order", 16)] rfl sc_law.nd (di_seqK K (de_var 14)) (blkOk_by (by kernel_rfl)) (fun _ _ _ _ _ => (dg_name (vs := [16]) 16 (by decide) sc_law.nd)) (fun _ _ _ _ _ => (dts_one (dt_not (dt_val (de_callK (D__law_so A 7) (hr.mono (by omega)) pass0 rfl (da_cons (de_var 13) (da_cons (de_var 16) da_nil))))))) (fun _ _ _ _ _ => (de_var 16)))
        (db_cons (ds_set 15 sc_law.nd (de_callK (D_follows_so A) (hr.mono (by omega)) pass0 rfl (da_cons (de_var 6) (da_cons (de_if (dt_cmp (op_eqK K hr.units) ro_eq (de_callK (V__law_draw A) (hr.mono (by omega)) pass0 rfl (da_cons (de_var 1) (da_cons de_int da_nil))) de_int (nomark _)) (de_ct (call_tupleK K) roc_tuple rfl A.b_tuple (by decide +kernel) (da_cons (de_var 12) da_nil)) (de_var 12)) (da_cons (de_var 13) da_nil)))))
        (db_cons (ds_if (dt_w (dw_or (dt_not (dt_val (de_callK (D__law_is A 6) (hr.mono (by omega)) pass0 rfl (da_cons (de_var 15) (da_cons (de_if (dt_cmp (op_neK K hr.units) ro_ne (de_var 14) (de_lst false da_nil) (nomark _)) (de_ixK K (de_var 14) de_int) de_non) da_nil))))) (dw_or1 (dt_w (dw_and (dt_cmp (op_inA K hr.units65) (ro_inA false) (de_var 13) (de_var 12) (by rfl)) (dw_and1 (dt_cmp op_notN ro_notN (de_var 15) de_non (nomark _))))))))
          (db_one (ds_ret de_bl))
          db_nil)
        (db_cons (ds_if (dt_w (dw_and (dt_cmp op_gt ro_IB (de_cb (call_lenK K) roc_len rfl A.b_len (by decide +kernel) (da_cons (de_var 12) da_nil)) de_int (nomark _)) (dw_and1 (dt_cmp (op_neK K hr.units) ro_ne (de_callK (D_follows_so A) (hr.mono (by omega)) pass0 rfl (da_cons (de_var 6) (da_cons (de_op (op_addK K) (ro_add false) (de_lst false (da_cons (de_tup (da_cons de_str (da_cons (de_ixK K (de_var 12) de_int) (da_cons (de_ixK K (de_var 12) de_int) da_nil)))) da_nil)) (de_slK K false (de_var 12) (do_some de_int) do_none)) (da_cons (de_var 13) da_nil)))) (de_var 15) (nomark _)))))
          (db_one (ds_ret de_bl))
          db_nil)
        (db_one (ds_if (dt_w (dw_and (dt_cmp (op_neK K hr.units) ro_ne (de_var 5) (de_lst false da_nil) (nomark _)) (dw_and1 (dt_cmp (op_neK K hr.units) ro_ne (de_cmp op_isN ro_isN (de_callK (D_follows_so A) (hr.mono (by omega)) pass0 rfl (da_cons (de_var 6) (da_cons (de_lst false da_nil) (da_cons (de_var 7) da_nil)))) de_non (nomark _)) (de_cmp (op_eqK K hr.units) ro_eq (de_callK (D_always A) (hr.mono (by omega)) pass0 rfl (da_cons (de_var 6) (da_cons (de_var 7) da_nil))) (de_tup (da_cons de_str da_nil)) (nomark _)) (nomark _)))))
          (db_one (ds_ret de_bl))
          db_nil))))))))))))))))))
      (db_one (ds_ret de_bl)))))))),
      ?_⟩)
  all_goals (
    rintro ds S Q Ed ⟨ns, rfl, no, q⟩
    simp! [handSp, wMake, wPar]
    refine ⟨ns, rfl, no, fun t ht => ?_⟩
    repeat (refine And.intro (by first | assumption | rfl | (rw [sizeLine_eq] ; simp only [List.length_append, List.length_cons, List.length_nil, List.length_map, List.length_replicate, rep_len] ; omega) | (simp only [List.length_append, List.length_cons, List.length_nil, List.length_map, List.length_replicate, rep_len] ; omega) | omega | (rw [sizeLine_eq] ; omega)) ?_)
    refine fun a1 ha1 => ⟨a1, knownB, rfl, MS.set_same, knownB_ok, by decide, fun d1 hd1 => ⟨rfl, ?_⟩⟩
    unfold endI
    rw [if_pos rfl, MS.set_set]
    repeat (refine And.intro (by first | assumption | rfl | (rw [sizeLine_eq] ; simp only [List.length_append, List.length_cons, List.length_nil, List.length_map, List.length_replicate, rep_len] ; omega) | (simp only [List.length_append, List.length_cons, List.length_nil, List.length_map, List.length_replicate, rep_len] ; omega) | omega | (rw [sizeLine_eq] ; omega)) ?_)
    have e1 : d1 ≠ a1 := fun e => by rw [e, MS.set_same] at hd1; cases hd1
    have hd1 : (S.set t (.opq (opq2 JH))) d1 = none := by rw [MS.set_ne e1] at hd1; exact hd1
    have gt0 : (S.set t (.opq (opq2 JH))) t = some (.opq (opq2 JH)) := MS.set_same
    have sb0 : DL.Sub S (S.set t (.opq (opq2 JH))) := Sub.set ht
    generalize S.set t (.opq (opq2 JH)) = S0 at ha1 hd1 gt0 sb0 ⊢
    have hd1' : (S0.set a1 (.ins "Book" bkN (bkL knownB (.ref d1)))) d1 = none := (MS.set_ne e1).trans hd1
    have gt1 : ((S0.set a1 (.ins "Book" bkN (bkL knownB (.ref d1)))).set d1 (.dic [] [])) t = some (.opq (opq2 JH)) := MS.set_t (MS.set_t gt0 ha1) hd1'
    have sb1 : DL.Sub S ((S0.set a1 (.ins "Book" bkN (bkL knownB (.ref d1)))).set d1 (.dic [] [])) := sb0.trans ((Sub.set ha1).trans (Sub.set hd1'))
    have bk1 : BkM ((S0.set a1 (.ins "Book" bkN (bkL knownB (.ref d1)))).set d1 (.dic [] [])) a1 d1 knownB false := ⟨(MS.set_ne (Ne.symm e1)).trans MS.set_same, MS.set_same⟩
    have sd1 : S d1 = none := sb0.none hd1
    have nt1 : t ≠ d1 := fun e => by rw [← e, gt0] at hd1; cases hd1
    generalize (S0.set a1 (.ins "Book" bkN (bkL knownB (.ref d1)))).set d1 (.dic [] []) = S2 at gt1 sb1 bk1 ⊢
    have na1 : a1 ≠ d1 := Ne.symm e1
    have v1 : optD ((fits knownB).find? fun o => soS o (.at_ 1 0) != soS o (.no (.at_ 2 0))) = .non := by kernel_rfl
    have v2 : optD ((fits knownB).find? fun o => soS o (.at_ 1 0) != soS o (.ah 1 2)) = .non := by kernel_rfl
    have v3 : optD ((fits knownB).find? (folP [] (.at_ 1 0))) = .tup [.int 2, .int 1, .int 0] := by kernel_rfl
    have o3 : okD (.tup [.int 2, .int 1, .int 0]) = true := by decide +kernel
    have bk3 : BkM (S2.set d1 (memoM knownB true)) a1 d1 knownB true := ⟨(MS.set_ne na1).trans bk1.1, MS.set_same⟩
    refine ⟨a1, d1, knownB, false, .at_ 1 0, .no (.at_ 2 0), rfl, bk1, knownB_ok, by decide, by decide, by unfold syOk; decide, by decide, by simp only [syOk]; decide, by decide, ?_⟩
    rw [v1]
    simp! []
    repeat (refine And.intro (by first | assumption | rfl | (rw [sizeLine_eq] ; simp only [List.length_append, List.length_cons, List.length_nil, List.length_map, List.length_replicate, rep_len] ; omega) | (simp only [List.length_append, List.length_cons, List.length_nil, List.length_map, List.length_replicate, rep_len] ; omega) | omega | (rw [sizeLine_eq] ; omega)) ?_)
    refine ⟨a1, d1, knownB, true, .at_ 1 0, .ah 1 2, rfl, bk3, knownB_ok, by decide, by decide, by unfold syOk; decide, by decide, by unfold syOk; decide, by decide, ?_⟩
    rw [v2, MS.set_set]
    simp! []
    repeat (refine And.intro (by first | assumption | rfl | (rw [sizeLine_eq] ; simp only [List.length_append, List.length_cons, List.length_nil, List.length_map, List.length_replicate, rep_len] ; omega) | (simp only [List.length_append, List.length_cons, List.length_nil, List.length_map, List.length_replicate, rep_len] ; omega) | omega | (rw [sizeLine_eq] ; omega)) ?_)
    refine ⟨a1, d1, knownB, true, .tup [], [], .at_ 1 0, rfl, .inl rfl, bk3, knownB_ok, by decide, by decide, by decide, fun u hu => (nomatch hu), by unfold syOk; decide, by decide, ?_⟩
    rw [v3, MS.set_set]
    simp! [o3, eqD_refl o3]
    repeat (refine And.intro (by first | assumption | rfl | (rw [sizeLine_eq] ; simp only [List.length_append, List.length_cons, List.length_nil, List.length_map, List.length_replicate, rep_len] ; omega) | (simp only [List.length_append, List.length_cons, List.length_nil, List.length_map, List.length_replicate, rep_len] ; omega) | omega | (rw [sizeLine_eq] ; omega)) ?_)
    have gt3 : (S2.set d1 (memoM knownB true)) t = some (.opq (opq2 JH)) := (MS.set_ne nt1).trans gt1
    have sb4 : DL.Sub S (S2.set d1 (memoM knownB true)) := sb1.set2 sd1
    generalize S2.set d1 (memoM knownB true) = S3 at gt3 sb4 ⊢
    refine forW_n (fun i ρ S' => DL.Sub S S' ∧ S' t = some (.opq (opq2 JH)) ∧ ∃ z0 z2 z3 z4 z5 z6 z7 z8 z9 z10 z11 z12 z13 z14 z15 z16 z17 z18, ρ = [z0, some (.ref t), z2, z3, z4, z5, z6, z7, z8, z9, z10, z11, z12, z13, z14, z15, z16, z17, z18]) (fun _ _ _ _ => trivial) (fun i d ρ S' hd h N hN => ?hs) (fun ρ S' h => ?hd) ⟨sb4, gt3, _, _, _, _, _, _, _, _, _, _, _, _, _, _, _, _, _, _, rfl⟩
    case hd =>
      obtain ⟨sb, gt, z0, z2, z3, z4, z5, z6, z7, z8, z9, z10, z11, z12, z13, z14, z15, z16, z17, z18, rfl⟩ := h
      simp! []
      exact outK.mk sb q
    case hs =>
      obtain ⟨sb, gt, z0, z2, z3, z4, z5, z6, z7, z8, z9, z10, z11, z12, z13, z14, z15, z16, z17, z18, rfl⟩ := h
      simp_all! []
      refine ⟨t, 2, 5, rfl, gt, by decide, fun b a dd hbc hb hz ha hd ad => ?_⟩
      have hc6 : b.count ≤ 6 := by omega
      have hd' : (S'.set a (.ins "Book" bkN (bkL b (.ref dd)))) dd = none := (MS.set_ne (Ne.symm ad)).trans hd
      have gt' : ((S'.set a (.ins "Book" bkN (bkL b (.ref dd)))).set dd (.dic [] [])) t = some (.opq (opq2 JH)) := MS.set_t (MS.set_t gt ha) hd'
      have sb' : DL.Sub S ((S'.set a (.ins "Book" bkN (bkL b (.ref dd)))).set dd (.dic [] [])) := sb.trans ((Sub.set ha).trans (Sub.set hd'))
      have bk : BkM ((S'.set a (.ins "Book" bkN (bkL b (.ref dd)))).set dd (.dic [] [])) a dd b false := ⟨(MS.set_ne ad).trans MS.set_same, MS.set_same⟩
      have sdd : S dd = none := sb.none hd
      have td : t ≠ dd := fun e => by rw [← e, gt] at hd; cases hd
      generalize (S'.set a (.ins "Book" bkN (bkL b (.ref dd)))).set dd (.dic [] []) = S4 at gt' sb' bk ⊢
      have fl := fits_le hb hc6
      simp_all! [specD]
      refine ⟨t, b.count, 4, rfl, gt', by omega, ⟨by decide, by decide⟩, fun s os cs => ?_⟩
      have r1 : ∀ S, rd S (syD s) = syD s := fun S => rd_pu (syD_pu s)
      simp_all! []
      refine ⟨t, b.count, 4, rfl, gt', by omega, ⟨by decide, by decide⟩, fun u0 ou0 cu0 => ?_⟩
      refine ⟨t, b.count, s, rfl, os, fun u1 ou1 cu1 eu1 => ?_⟩
      refine ⟨t, b.count, s, rfl, os, fun u2 ou2 cu2 eu2 => ?_⟩
      refine ⟨le_sz (by decide), t, _, rfl, gt', ⟨by simp, by simp⟩, fun x hx => ?_⟩
      obtain ⟨u, rfl, ou, cu⟩ : ∃ u, x = syD u ∧ syOk b.count u ∧ syDep u ≤ 5 := by
        simp only [List.mem_cons, List.not_mem_nil, or_false] at hx
        rcases hx with rfl | rfl | rfl
        · exact ⟨u0, rfl, ou0, by omega⟩
        · exact ⟨u1, rfl, ou1, by omega⟩
        · exact ⟨u2, rfl, ou2, by omega⟩
      clear hx
      have ru : ∀ S, rd S (syD u) = syD u := fun S => rd_pu (syD_pu u)
      refine compL_fm (h := tupI) (fun o => soS o s != soS o u) noG_any (le_sz (by omega)) (fun o ho S2 sub N M hN hM => ?_) ?_
      · have hop := fits_perm hb ho
        simp! [r1, ru]
        refine ⟨b.count, s, o, rfl, os, hop, by show syDep s ≤ (6 : Nat); omega, b.count, u, o, rfl, ou, hop, by show syDep u ≤ (6 : Nat); omega, ?_⟩
        simp! []
        exact ite_bl hN hM
      have nn : (!((fits b).filter fun o => soS o s != soS o u).isEmpty) = true → 0 < ((fits b).filter fun o => soS o s != soS o u).length := fun h => List.length_pos_iff.mpr fun e => by rw [e] at h; cases h
      have hh : ((fits b).filter fun o => soS o s != soS o u).head? = (fits b).find? fun o => soS o s != soS o u := List.head?_filter
      refine mergeE (w := wIf _ _ _) (optD ((fits b).find? fun o => soS o s != soS o u)) (fun Q' hQ => ?_) ?_
      · simp! [okD_rows, okD_nil, eqD_nil_map]
        repeat (refine And.intro (by first | assumption | rfl | (rw [sizeLine_eq] ; simp only [List.length_append, List.length_cons, List.length_nil, List.length_map, List.length_replicate, rep_len] ; omega) | (simp only [List.length_append, List.length_cons, List.length_nil, List.length_map, List.length_replicate, rep_len] ; omega) | omega | (rw [sizeLine_eq] ; omega)) ?_)
        generalize (fits b).filter (fun o => soS o s != soS o u) = l at nn hh hQ ⊢
        refine ite_bl (fun h => ?_) (fun h => ?_)
        · cases l with
          | nil => cases h
          | cons x xs =>
            rw [← hh] at hQ
            simp! []
            exact hQ
        · cases l with
          | nil =>
            rw [← hh] at hQ
            exact hQ
          | cons x xs => cases h
      simp_all! []
      refine ⟨a, dd, b, false, s, u, rfl, bk, hb, hc6, hz, os, by omega, ou, cu, ?_⟩
      have bk4 : BkM (S4.set dd (memoM b true)) a dd b true := ⟨(MS.set_ne ad).trans bk.1, MS.set_same⟩
      have gt4 : (S4.set dd (memoM b true)) t = some (.opq (opq2 JH)) := (MS.set_ne td).trans gt'
      have sb4 : DL.Sub S (S4.set dd (memoM b true)) := sb'.set2 sdd
      generalize S4.set dd (memoM b true) = S5 at bk4 gt4 sb4 ⊢
      have e5 : S5.set dd (memoM b true) = S5 := MS.set_id bk4.2
      refine ⟨_, rfl, optD_is hb, ?_⟩
      refine ⟨_, rfl, ?_⟩
      rw [if_neg (by decide)]
      refine ⟨a, dd, b, true, u, s, rfl, bk4, hb, hc6, hz, ou, cu, os, by omega, ?_⟩
      rw [e5, show (fun o => soS o u != soS o s) = fun o => soS o s != soS o u from funext fun o => bne_comm]
      refine ⟨_, rfl, optD_is hb, ?_⟩
      refine ⟨_, rfl, ?_⟩
      rw [if_neg (by decide)]
      refine ⟨le_sz (by decide), a, dd, b, true, .tup [syD s], [s], u, rfl, .inl rfl, bk4, hb, hc6, hz, by simp, fun v hv => by rw [List.mem_singleton.mp hv]; exact ⟨os, by omega⟩, ou, cu, ?_⟩
      rw [e5]
      refine ⟨le_sz (by decide), a, dd, b, true, .lst [syD u], [u], s, rfl, .inr rfl, bk4, hb, hc6, hz, by simp, fun v hv => by rw [List.mem_singleton.mp hv]; exact ⟨ou, cu⟩, os, by omega, ?_⟩
      rw [e5]
      refine ⟨le_sz (by decide), le_sz (by decide), ok_pair _ _, by decide +kernel, ?_⟩
      have two : ∀ o, (soS o s != soS o u) = (folP [s] u o || folP [u] s o) := fun o => by
        show (soS o s != soS o u) = ((soS o s && true) && !soS o u || (soS o u && true) && !soS o s)
        cases soS o s <;> cases soS o u <;> rfl
      refine ite_bl (fun h => ?_) (fun _ => ?_)
      · rw [pair_non, rd_opt, isNon_opt, find_two_none two, beq_self_eq_true] at h
        cases h
      refine mergeT (w := wAnd _ _) false (fun Q' hQ => ?_) ?_
      · simp! [rd_opt, isNon_opt]
        refine ite_bl (fun h => ?_) (fun h => hQ)
        refine ⟨_, .inl rfl, optD_okD _, ok_pair _ _, ?_⟩
        refine ⟨_, rfl, ?_⟩
        rw [opt_in (find_two two (fits b))]
        exact hQ
      simp_all! [drawSp]
      refine ⟨gt4, by decide, by decide, fun r7 h7 h8 => ⟨by omega, by omega, ?_⟩⟩
      refine compL_all (fun x => ∃ v : Sy, x = syD v ∧ syOk b.count v ∧ syDep v ≤ 1) noG_any (le_sz (by rw [rangeD_length]; omega)) (fun d hd S2 sub N hN => ?_) (fun xs hxl hxp => ?_)
      · simp! []
        exact ⟨t, b.count, 2, rfl, sub _ _ gt4, by omega, ⟨by decide, by decide⟩, fun v ov cv => hN _ ⟨v, rfl, ov, by omega⟩⟩
      obtain ⟨vs, rfl, hvs⟩ := exists_sy (p := fun v => syOk b.count v ∧ syDep v ≤ 1) hxp
      have hvl : vs.length ≤ 6 := by rw [List.length_map, rangeD_length] at hxl; omega
      clear hxp hxl
      have rv : ∀ (S : MS) (v : Sy), rd S (syD v) = syD v := fun S v => rd_pu (syD_pu v)
      simp_all! []
      refine ⟨le_sz (by decide), le_sz (by rw [List.length_map]; omega), t, _, rfl, gt4, ⟨by simp, by simp; omega⟩, fun x hx => ?_⟩
      obtain ⟨w, rfl, ow, cw⟩ : ∃ w, x = syD w ∧ syOk b.count w ∧ syDep w ≤ 5 := by
        rcases List.mem_append.mp hx with h | h
        · obtain ⟨v, hv, rfl⟩ := List.mem_map.mp h
          exact ⟨v, rfl, (hvs v hv).1, by have := (hvs v hv).2; omega⟩
        · simp only [List.mem_cons, List.not_mem_nil, or_false] at h
          rcases h with rfl | rfl
          · exact ⟨s, rfl, os, by omega⟩
          · exact ⟨u, rfl, ou, cu⟩
      clear hx
      refine compL_fm (h := tupI) (fun o => vs.all fun v => soS o v) noG_any (le_sz (by omega)) (fun o ho S2 sub N M hN hM => ?_) ?_
      · have hop := fits_perm hb ho
        simp! []
        refine compAllM (fun v => soS o v) noG_any (le_sz (by omega)) (fun v hv S3 sub N hN => ?_) ⟨_, rfl, ite_bl hN hM⟩
        have hv2 := hvs v hv
        simp! [rv]
        exact ⟨b.count, v, o, rfl, hv2.1, hop, by show syDep v ≤ (6 : Nat); omega, hN⟩
      simp_all! []
      refine compL_fm (h := tupI) (fun o => !soS o w) noG_any (le_sz (Nat.le_trans (List.length_filter_le _ _) (by omega))) (fun o ho S2 sub N M hN hM => ?_) ?_
      · have hop := fits_perm hb (List.mem_filter.mp ho).1
        simp! [rv]
        exact ⟨b.count, w, o, rfl, ow, hop, by show syDep w ≤ (6 : Nat); omega, _, rfl, ite_bl hN hM⟩
      rw [List.filter_filter, show (fun o => !soS o w && vs.all fun v => soS o v) = folP vs w from funext fun o => Bool.and_comm _ _]
      refine mergeEP (w := wIf _ _ _) (fun x => x = .tup (vs.map syD) ∨ x = .lst (vs.map syD)) (fun Q' hQ => ?_) (fun x hx => ?_)
      · simp! [drawSp]
        exact ⟨gt4, by decide, by decide, fun i1 _ _ => ite_bl (fun _ => hQ _ (.inl rfl)) (fun _ => hQ _ (.inr rfl))⟩
      simp_all! []
      refine ⟨a, dd, b, true, x, vs, w, rfl, hx, bk4, hb, hc6, hz, hvl, fun v hv => ⟨(hvs v hv).1, by have := (hvs v hv).2; omega⟩, ow, cw, ?_⟩
      rw [e5]
      have hh2 : ((fits b).filter (folP vs w)).head? = (fits b).find? (folP vs w) := List.head?_filter
      have nn2 : (!((fits b).filter (folP vs w)).isEmpty) = true → 0 < ((fits b).filter (folP vs w)).length := fun h => List.length_pos_iff.mpr fun e => by rw [e] at h; cases h
      refine mergeE (w := wIf _ _ _) (optD ((fits b).find? (folP vs w))) (fun Q' hQ => ?_) ?_
      · simp! [okD_rows, okD_nil, eqD_nil_map]
        repeat (refine And.intro (by first | assumption | rfl | (rw [sizeLine_eq] ; simp only [List.length_append, List.length_cons, List.length_nil, List.length_map, List.length_replicate, rep_len] ; omega) | (simp only [List.length_append, List.length_cons, List.length_nil, List.length_map, List.length_replicate, rep_len] ; omega) | omega | (rw [sizeLine_eq] ; omega)) ?_)
        generalize (fits b).filter (folP vs w) = l at nn2 hh2 hQ ⊢
        refine ite_bl (fun h => ?_) (fun h => ?_)
        · cases l with
          | nil => cases h
          | cons x xs =>
            rw [← hh2] at hQ ⊢
            simp! []
            exact hQ
        · cases l with
          | nil =>
            rw [← hh2] at hQ ⊢
            exact hQ
          | cons x xs => cases h
      refine ⟨_, rfl, optD_is hb, ?_⟩
      refine ⟨_, rfl, ?_⟩
      rw [if_neg (by decide)]
      refine mergeT (w := wAnd _ _) false (fun Q' hQ => ?_) ?_
      · simp! [rv, rd_opt, isNon_opt]
        refine ⟨_, .inl rfl, okD_sy (by omega), okD_sys fun v hv => by have := (hvs v hv).2; omega, ?_⟩
        refine ⟨_, rfl, ite_bl (fun h => ?_) (fun h => hQ)⟩
        have hw := inD_sy h
        have hmiss : (fits b).find? (folP vs w) = none := find_miss fun o _ => by
          unfold folP
          cases e : soS o w with
          | true => rw [Bool.not_true, Bool.and_false]
          | false =>
            rw [Bool.not_false, Bool.and_true, Bool.eq_false_iff]
            intro h2
            have := List.all_eq_true.mp h2 w hw
            rw [e] at this
            cases this
        rw [hmiss] at hQ ⊢
        exact hQ
      simp_all! []
      refine mergeT (w := wAnd _ _) false (fun Q' hQ => ?_) ?_
      · simp! [rv, rd_opt]
        refine ite_bl (fun h => ?_) (fun h => hQ)
        obtain ⟨v0, v1, vr, rfl⟩ : ∃ v0 v1 vr, vs = v0 :: v1 :: vr := by
          have h2 := of_decide_eq_true h
          match vs, h2 with
          | [], h2 => simp at h2
          | [_], h2 => simp at h2
          | v0 :: v1 :: vr, _ => exact ⟨v0, v1, vr, rfl⟩
        have h0 := hvs v0 (by simp)
        have h1 := hvs v1 (by simp)
        simp! [cutD_from (show (0 : Int) ≤ 2 by decide)]
        have hdr : List.drop (Int.toNat 2) (syD v0 :: syD v1 :: vr.map syD) = vr.map syD := rfl
        rw [hdr]
        have hvl2 : vr.length ≤ 4 := by simp at hvl; omega
        refine ⟨le_sz (by decide), le_sz (by decide), le_sz (by rw [List.length_map]; omega), ?_⟩
        refine ⟨a, dd, b, true, _, .an v0 v1 :: vr, w, rfl, .inr rfl, bk4, hb, hc6, hz, by rw [List.length_cons]; omega, fun v hv => ?_, ow, cw, ?_⟩
        · rcases List.mem_cons.mp hv with rfl | hv
          · exact ⟨⟨h0.1, h1.1⟩, by have := h0.2; have := h1.2; simp only [syDep]; omega⟩
          · have := hvs v (by simp [hv]); exact ⟨this.1, by omega⟩
        rw [e5, show folP (.an v0 v1 :: vr) w = folP (v0 :: v1 :: vr) w from funext fun o => by unfold folP; simp [soS, Bool.and_assoc]]
        simp only [rd_opt]
        refine ⟨optD_okD _, optD_okD _, ?_⟩
        rw [eqD_refl (optD_okD _)]
        exact hQ
      simp_all! []
      refine mergeT (w := wAnd _ _) false (fun Q' hQ => ?_) ?_
      · simp! [okD_rows, okD_nil, eqD_nil_map]
        refine ⟨le_sz (by decide), ?_⟩
        refine ite_bl (fun h => ?_) (fun h => hQ)
        refine ⟨le_sz (by decide), a, dd, b, true, _, [], s, rfl, .inr rfl, bk4, hb, hc6, hz, by decide, fun v hv => (nomatch hv), os, by omega, ?_⟩
        rw [e5]
        simp only [rd_opt, isNon_opt]
        refine ⟨a, dd, b, true, s, rfl, bk4, hb, hc6, hz, os, by omega, ?_⟩
        rw [e5]
        have hne : fits b ≠ [] := fun e => by rw [e] at h; cases h
        simp only [rd_alw]
        refine ⟨le_sz (by decide), alw_okD s, okL_mono (okL_tup (n := 1) fun d hd => by rw [List.mem_singleton.mp hd]; exact okL_str so_9) (by decide), ?_⟩
        rw [alw_eq hne, beq_self_eq_true]
        exact hQ
      simp_all! []
      exact hN _ _ ⟨sb4, gt4, _, _, _, _, _, _, _, _, _, _, _, _, _, _, _, _, _, _, rfl⟩)
theorem D_law (A : Al K mg) : Def P w K mg base CX0 15 "law" ["script"] sp_law := by
  obtain ⟨f, fd, Fu, hm, hb⟩ := fu_law A
  exact ⟨f, fd, O_law A Fu, hm, Fu.kp, hb⟩
theorem L_law (A : Al K mg) : ∃ f fd, mg "law" = some (.ref f) ∧ (∀ (s : Shared) (u : Value), BindsTo s fd ⟨[u], []⟩ [("script", u)]) ∧ ∀ base : Heap, FnG P w K mg base CX0 15 f fd ["script"] (spD K sp_law) := by
  obtain ⟨fd, F⟩ := A.says.def_ 34 (d := d_law) rfl
  exact ⟨_, fd, A.g_law, fun s v => FunD.bindsA (ps := ["script"]) F (fun _ _ _ _ _ _ us hl => match us, hl with | [_], _ => rfl) s [v] rfl, fun base => O_law A F⟩
end
theorem law_ok (ds : List D) (S : MS) (Q : KV2) (E : DXC) : lawSp 63 ds S Q E → sp_law ds S Q E := by
  rintro ⟨ns, rfl, _, h, q⟩
  exact ⟨ns, rfl, (fun a m e => by rw [h a] at e; cases e), q⟩
abbrev R : PySem.W.OpenRow := PySem.W.OpenLaw.row PySem.Challenge.rw_layertold_k35_whole_same_sayings_and_wha
abbrev hk : PySem.W.Hook := hookN 4 fa fn
def ob (s : PySem.W.SharedT) : He.AlD := obsN 4 fa fn (HandSHeadRun.getT s)
theorem ob_eq (s : PySem.W.SharedT) : ob s = hk.obs s.abs := obsN_eq (HandSHeadRun.getT_eq s)
def loose0 : List PySem.Str := ["is_integer", "is_within", "is_tuple", "is_row", "is_lot", "EarthError", "BadBook", "TooMany", "NoSaying", "NoSayings", "is_pair", "are_overs", "is_bound", "is_date", "is_kind", "Book", "is_dated", "stands_first", "is_unbroken", "longer", "fitting", "saying_in", "check_saying", "is_so", "those_so", "always", "same_saying", "follows_so", "_law_hand", "_law_draw"]
def loose1 : List PySem.Str := ["_law_some", "_law_is", "_law_shuffled", "_law_spec", "_law_can_go", "_law_fitting", "_law_case", "_law_saying", "_law_so", "_law_turned", "MOST_LAYERS", "MOST_KINDS", "FARTHEST", "MOST_ORDERS", "DEEPEST", "MOST_SAYINGS"]
def loose : List PySem.Str := loose0 ++ loose1
theorem run (w : World) : HandSHeadRun.RunEq R (PySem.W.view R.prog [52]) hk ob 4000 loose w := by
  intro os
  kernel_rfl
end W35
open PySem PySem.W PySem.Calls PyProof.Rows
theorem PySem.Challenge.cw_layertold_k35_whole_same_sayings_and_wha_holds : PySem.Challenge.rw_layertold_k35_whole_same_sayings_and_wha.Holds := by
  w_on; o_law
  refine HandSHeadRun.head_any (r := OpenLaw.row PySem.Challenge.rw_layertold_k35_whole_same_sayings_and_wha) (q := view (OpenLaw.row PySem.Challenge.rw_layertold_k35_whole_same_sayings_and_wha).prog [52]) (H := W35.hk) (ob := W35.ob) (M := 4000) (loose := W35.loose) (d := HandSHeadRun.topDef (OpenLaw.row PySem.Challenge.rw_layertold_k35_whole_same_sayings_and_wha).prog 52) (kwd := []) W35.ob_eq
    (by kernel_rfl) (fun s => by kernel_rfl) W35.run (by kernel_rfl) (by kernel_rfl) (by kernel_rfl) (by rfl) (by first | assumption | decide +kernel) (by decide +kernel) ⟨rfl, rfl, rfl, rfl, rfl, by decide +kernel⟩ ?hw ?hc
  case hw => w_witness2
  case hc => exact DL.walk_law (l := PySem.Challenge.rw_layertold_k35_whole_same_sayings_and_wha) (n := 63) (k := 15) (sp := W35.sp_law) rfl (by decide) (by kernel_rfl) ⟨rfl, by decide, by decide⟩ (by kernel_rfl) W35.law_ok fun w K mg h X G c => W35.L_law ⟨c, h, X, G⟩
