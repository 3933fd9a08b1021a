import PyProof.Rows.All
import Wide.All
import OpenK.AllK
import Wide.FinOn
import HandS.ForMost
import HandS.WordsExc
import HandS.Exc
import HandS.Walk
import HandS.Flow
import HandS.Defaults
import HandS.Style
import HandS.TupAny
import HandS.TupMul
import HandS.SortInts
import HandS.IsInst
import HandS.Conv
import HandS.Wide
import HandS.Zip
import KE.GoesEnum
import KE.GoesMore
import HandS.SortKw
import HandS.Dict
import KE.KRevSl
import HandS.Ends
import HandS.Head0
import HandS.Head1
import HandS.Head2
import HandS.HeadEnd
import HandS.HeadHook1
import HandS.HeadHook2
import PySem.Challenge.RW_layertold_k38_whole_screens_judged_and_p
set_option Elab.async false
set_option linter.all false
set_option maxRecDepth 100000
set_option maxHeartbeats 4000000
/-! DL1: data D by value, the store MS of what may change, and how both lie in the layer's abstract heap; expressions. -/
namespace DL
open PySem PySem.Spec PyProof.Rows L2
inductive D where
  | non | bl (b : Bool) | int (i : Int) | str (x : Str)
  | tup (xs : List D) | lst (xs : List D)
  | dic (ks : List Key) (xs : List D)
  | obj (C : Addr) (ns : List Str) (xs : List D)
  | ref (a : Addr)
mutual
/-- a datum by value, in the part of the heap that never changes any more -/
inductive Rep (K : PySem.W.Frag) (F : Hp) : D → V → Prop
  | non : Rep K F .non .non
  | bl (b : Bool) : Rep K F (.bl b) (.bl b)
  | int (i : Int) : Rep K F (.int i) (.int i)
  | str (x : Str) : Rep K F (.str x) (.str x)
  | tup {ds : List D} {a : Addr} {vs : List V} : SqT K F a vs → Reps K F ds vs → Rep K F (.tup ds) (.ref a)
  | lst {ds : List D} {a : Addr} {vs : List V} : Rd F a (.lst vs) → Reps K F ds vs → Rep K F (.lst ds) (.ref a)
  | dic {ks : List Key} {ds : List D} {a : Addr} {kvs : List (Key × V)} : F a = some (.dK kvs) → kvs.map (·.1) = ks → Reps K F ds (kvs.map (·.2)) → Rep K F (.dic ks ds) (.ref a)
  | obj {C : Addr} {ns : List Str} {ds : List D} {a dx : Addr} {fs : List (Str × V)} : F a = some (.ins C dx fs) → fs.map (·.1) = ns → Reps K F ds (fs.map (·.2)) → Rep K F (.obj C ns ds) (.ref a)
  | ref (a : Addr) : Rep K F (.ref a) (.ref a)
inductive Reps (K : PySem.W.Frag) (F : Hp) : List D → List V → Prop
  | nil : Reps K F [] []
  | cons {d : D} {v : V} {ds : List D} {vs : List V} : Rep K F d v → Reps K F ds vs → Reps K F (d :: ds) (v :: vs)
end
/-- F' knows all that F knows -/
def ExF (F F' : Hp) : Prop := ∀ a o, F a = some o → F' a = some o
theorem ExF.refl (F : Hp) : ExF F F := fun _ _ h => h
theorem ExF.trans {F F1 F2 : Hp} (a : ExF F F1) (b : ExF F1 F2) : ExF F F2 := fun x o h => b x o (a x o h)
theorem ExF.new {F : Hp} {p : Addr} {o : HO} (h : F p = none) : ExF F (upd F p o) := fun a u e => by
  rw [upd_ne (ne_of_none e h)]
  exact e
theorem exf_rd {F F' : Hp} {a : Addr} {u : HO} (e : ExF F F') (h : Rd F a u) : Rd F' a u := by
  rcases h with h | ⟨o, h⟩
  · exact .inl (e a _ h)
  · exact .inr ⟨o, e a _ h⟩
theorem exf_l {K : PySem.W.Frag} {F F' : Hp} {a : Addr} {xs : List V} (e : ExF F F') (h : SqL K F a xs) : SqL K F' a xs := by
  rcases h with h | h
  · exact .inl (exf_rd e h)
  · exact .inr h
theorem exf_t {K : PySem.W.Frag} {F F' : Hp} {a : Addr} {xs : List V} (e : ExF F F') (h : SqT K F a xs) : SqT K F' a xs := by
  rcases h with h | h
  · exact .inl (exf_rd e h)
  · exact .inr h
section
variable {K : PySem.W.Frag} {F F' : Hp}
mutual
theorem Rep.mono (e : ExF F F') : ∀ (d : D) (v : V), Rep K F d v → Rep K F' d v
  | .non, _, h => by cases h; exact .non
  | .bl b, _, h => by cases h; exact .bl b
  | .int i, _, h => by cases h; exact .int i
  | .str x, _, h => by cases h; exact .str x
  | .tup ds, _, h => by
    cases h with
    | tup hs ha => exact .tup (exf_t e hs) (Reps.mono e ds _ ha)
  | .lst ds, _, h => by
    cases h with
    | lst hs ha => exact .lst (exf_rd e hs) (Reps.mono e ds _ ha)
  | .dic ks ds, _, h => by
    cases h with
    | dic h1 h2 h3 => exact .dic (e _ _ h1) h2 (Reps.mono e ds _ h3)
  | .obj C ns ds, _, h => by
    cases h with
    | obj h1 h2 h3 => exact .obj (e _ _ h1) h2 (Reps.mono e ds _ h3)
  | .ref a, _, h => by cases h; exact .ref a
theorem Reps.mono (e : ExF F F') : ∀ (ds : List D) (vs : List V), Reps K F ds vs → Reps K F' ds vs
  | [], _, h => by cases h; exact .nil
  | d :: ds, _, h => by
    cases h with
    | cons h1 h2 => exact .cons (Rep.mono e d _ h1) (Reps.mono e ds _ h2)
end
theorem Rep.up {d : D} {v : V} (h : Rep K F d v) (e : ExF F F') : Rep K F' d v := Rep.mono e d v h
theorem Reps.up {ds : List D} {vs : List V} (h : Reps K F ds vs) (e : ExF F F') : Reps K F' ds vs := Reps.mono e ds vs h
theorem Reps.length : ∀ {ds : List D} {vs : List V}, Reps K F ds vs → ds.length = vs.length
  | [], [], _ => rfl
  | _ :: _, _ :: _, h => by
    cases h with
    | cons _ h2 => simp [Reps.length h2]
  | [], _ :: _, h => by cases h
  | _ :: _, [], h => by cases h
theorem Reps.append : ∀ {ds es : List D} {vs us : List V}, Reps K F ds vs → Reps K F es us → Reps K F (ds ++ es) (vs ++ us)
  | [], _, _, _, h, g => by
    cases h
    exact g
  | d :: ds, _, _, _, h, g => by
    cases h with
    | cons h1 h2 => exact .cons h1 (Reps.append h2 g)
theorem Reps.get : ∀ {ds : List D} {vs : List V} {i : Nat} {d : D}, Reps K F ds vs → ds[i]? = some d → ∃ v, vs[i]? = some v ∧ Rep K F d v
  | [], _, _, _, _, e => by simp at e
  | d :: ds, _, 0, x, h, e => by
    cases h with
    | cons h1 h2 =>
      have : d = x := by simpa using e
      subst this
      exact ⟨_, rfl, h1⟩
  | d :: ds, _, i + 1, x, h, e => by
    cases h with
    | cons h1 h2 =>
      obtain ⟨v, a, b⟩ := Reps.get (i := i) (d := x) h2 (by simpa using e)
      exact ⟨v, by simpa using a, b⟩
theorem Reps.drop : ∀ {ds : List D} {vs : List V} (n : Nat), Reps K F ds vs → Reps K F (ds.drop n) (vs.drop n)
  | _, _, 0, h => h
  | [], _, _ + 1, h => by cases h; exact .nil
  | _ :: _, _, n + 1, h => by
    cases h with
    | cons _ h2 => exact Reps.drop n h2
theorem Reps.take : ∀ {ds : List D} {vs : List V} (n : Nat), Reps K F ds vs → Reps K F (ds.take n) (vs.take n)
  | _, _, 0, _ => .nil
  | [], _, _ + 1, h => by cases h; exact .nil
  | _ :: _, _, n + 1, h => by
    cases h with
    | cons h1 h2 => exact .cons h1 (Reps.take n h2)
theorem Reps.set {d : D} {v : V} (r : Rep K F d v) : ∀ {ds : List D} {vs : List V} (i : Nat), Reps K F ds vs → Reps K F (ds.set i d) (vs.set i v)
  | [], _, _, h => by cases h; exact .nil
  | _ :: _, _, 0, h => by
    cases h with
    | cons _ h2 => exact .cons r h2
  | _ :: _, _, i + 1, h => by
    cases h with
    | cons h1 h2 => exact .cons h1 (Reps.set r i h2)
theorem Reps.eraseIdx : ∀ {ds : List D} {vs : List V} (i : Nat), Reps K F ds vs → Reps K F (ds.eraseIdx i) (vs.eraseIdx i)
  | [], _, _, h => by cases h; exact .nil
  | _ :: _, _, 0, h => by
    cases h with
    | cons _ h2 => exact h2
  | _ :: _, _, i + 1, h => by
    cases h with
    | cons h1 h2 => exact .cons h1 (Reps.eraseIdx i h2)
theorem Reps.reverse : ∀ {ds : List D} {vs : List V}, Reps K F ds vs → Reps K F ds.reverse vs.reverse
  | [], _, h => by cases h; exact .nil
  | d :: ds, _, h => by
    cases h with
    | cons h1 h2 =>
      rw [List.reverse_cons, List.reverse_cons]
      exact (Reps.reverse h2).append (.cons h1 .nil)
theorem Reps.dropLast : ∀ {ds : List D} {vs : List V}, Reps K F ds vs → Reps K F ds.dropLast vs.dropLast
  | [], _, h => by cases h; exact .nil
  | [_], _, h => by
    cases h with
    | cons _ h2 => cases h2; exact .nil
  | d :: e :: ds, _, h => by
    cases h with
    | cons h1 h2 =>
      cases h2 with
      | cons h3 h4 => exact .cons h1 (Reps.dropLast (.cons h3 h4))
theorem Reps.rep {ds : List D} {vs : List V} (h : Reps K F ds vs) : ∀ k : Nat, Reps K F (List.replicate k ds).flatten (List.replicate k vs).flatten
  | 0 => .nil
  | k + 1 => by
    rw [List.replicate_succ, List.replicate_succ, List.flatten_cons, List.flatten_cons]
    exact h.append (Reps.rep h k)
theorem Reps.ints : ∀ {ns : List Int} {vs : List V}, Reps K F (ns.map D.int) vs → vs = ns.map V.int
  | [], _, h => by cases h; rfl
  | n :: ns, _, h => by
    cases h with
    | cons h1 h2 =>
      cases h1
      rw [Reps.ints h2]
      rfl
theorem Reps.of_ints : ∀ (ns : List Int), Reps K F (ns.map D.int) (ns.map V.int)
  | [] => .nil
  | n :: ns => .cons (.int n) (Reps.of_ints ns)
theorem Reps.bls : ∀ {ns : List Bool} {vs : List V}, Reps K F (ns.map D.bl) vs → vs = ns.map V.bl
  | [], _, h => by cases h; rfl
  | n :: ns, _, h => by
    cases h with
    | cons h1 h2 =>
      cases h1
      rw [Reps.bls h2]
      rfl
theorem Reps.none_of {ds : List D} {vs : List V} (h : Reps K F ds vs) {i : Nat} (e : ds[i]? = none) : vs[i]? = none := by
  have := h.length
  have := List.getElem?_eq_none_iff.mp e
  exact List.getElem?_eq_none_iff.mpr (by omega)
theorem Reps.nil_iff {ds : List D} {vs : List V} (h : Reps K F ds vs) : vs = [] ↔ ds = [] := by
  have := h.length
  constructor
  · intro e
    subst e
    exact List.length_eq_zero_iff.mp (by simpa using this)
  · intro e
    subst e
    exact List.length_eq_zero_iff.mp (by simpa using this.symm)
end
/-- what may change; opq φ: a thing that is known by what stays true of it, with its own objects -/
inductive MO where
  | lst (ds : List D)
  | dic (ks : List Key) (ds : List D)
  | ins (C : Addr) (ns : List Str) (ds : List D)
  | opq (φ : Hp → Addr → List Addr → Prop)
abbrev MS := Addr → Option MO
def MS.set (S : MS) (a : Addr) (m : MO) : MS := fun b => if b = a then some m else S b
def MS.del (S : MS) (a : Addr) : MS := fun b => if b = a then none else S b
theorem MS.set_same {S : MS} {a : Addr} {m : MO} : (S.set a m) a = some m := if_pos rfl
theorem MS.set_ne {S : MS} {a b : Addr} {m : MO} (h : b ≠ a) : (S.set a m) b = S b := if_neg h
theorem MS.set_set {S : MS} {a : Addr} {m n : MO} : (S.set a m).set a n = S.set a n := by
  funext b
  unfold MS.set
  split <;> rfl
theorem MS.set_comm {S : MS} {a b : Addr} {m n : MO} (h : a ≠ b) : (S.set a m).set b n = (S.set b n).set a m := by
  funext c
  unfold MS.set
  by_cases h1 : c = a
  · subst h1
    rw [if_neg h, if_pos rfl, if_pos rfl]
  · by_cases h2 : c = b
    · subst h2
      rw [if_pos rfl, if_neg h1, if_pos rfl]
    · rw [if_neg h2, if_neg h1, if_neg h1, if_neg h2]
theorem MS.del_set {S : MS} {a : Addr} {m : MO} (h : S a = none) : (S.set a m).del a = S := by
  funext b
  by_cases e : b = a
  · subst e
    show (if b = b then none else S.set b m b) = S b
    rw [if_pos rfl, h]
  · simp only [MS.set, MS.del, if_neg e]
theorem MS.del_set_ne {S : MS} {a b : Addr} {m : MO} (h : a ≠ b) : (S.set a m).del b = (S.del b).set a m := by
  funext c
  by_cases h1 : c = a
  · simp only [MS.set, MS.del, if_pos h1]
    rw [h1, if_neg h]
  · by_cases h2 : c = b
    · simp only [MS.set, MS.del, if_pos h2, if_neg h1]
    · simp only [MS.set, MS.del, if_neg h2, if_neg h1]
theorem MS.ne_of {S : MS} {a b : Addr} {m : MO} (h : S a = some m) (h' : S b = none) : a ≠ b := by
  intro e
  subst e
  rw [h] at h'
  cases h'
/-- S has all of S0 -/
def Sub (S0 S : MS) : Prop := ∀ a m, S0 a = some m → S a = some m
theorem Sub.refl (S : MS) : Sub S S := fun _ _ h => h
theorem Sub.trans {S S1 S2 : MS} (a : Sub S S1) (b : Sub S1 S2) : Sub S S2 := fun x m h => b x m (a x m h)
theorem Sub.set {S : MS} {a : Addr} {m : MO} (h : S a = none) : Sub S (S.set a m) := fun b n e => by
  rw [MS.set_ne (MS.ne_of e h)]
  exact e
theorem Sub.set2 {S0 S : MS} {a : Addr} {m : MO} (s : Sub S0 S) (h : S0 a = none) : Sub S0 (S.set a m) := fun b n e => by
  rw [MS.set_ne (MS.ne_of e h)]
  exact s b n e
theorem Sub.del {S : MS} {a : Addr} : Sub (S.del a) S := fun b n e => by
  unfold MS.del at e
  by_cases h : b = a
  · rw [if_pos h] at e
    cases e
  · rw [if_neg h] at e
    exact e
theorem Sub.del2 {S0 S : MS} {a : Addr} (s : Sub S0 S) (h : S0 a = none) : Sub S0 (S.del a) := fun b n e => by
  unfold MS.del
  rw [if_neg (MS.ne_of e h)]
  exact s b n e
theorem Sub.none {S0 S : MS} {a : Addr} (s : Sub S0 S) (h : S a = none) : S0 a = none := by
  cases q : S0 a with
  | none => rfl
  | some m =>
    rw [s a m q] at h
    cases h
def MOk (K : PySem.W.Frag) (F : Hp) (S : MS) (H : Hp) (a : Addr) : MO → Prop
  | .lst ds => ∃ vs, H a = some (.lst vs) ∧ Reps K F ds vs
  | .dic ks ds => ∃ kvs : List (Key × V), H a = some (.dK kvs) ∧ kvs.map (·.1) = ks ∧ Reps K F ds (kvs.map (·.2))
  | .ins C ns ds => ∃ (dx : Addr) (fs : List (Str × V)), H a = some (.ins C dx fs) ∧ fs.map (·.1) = ns ∧ Reps K F ds (fs.map (·.2))
  | .opq φ => ∃ own : List Addr, (∀ c ∈ own, F c = none ∧ S c = none ∧ c ≠ a ∧ (H c).isSome = true) ∧ (H a).isSome = true ∧ ∀ H' : Hp, (∀ b, b = a ∨ b ∈ own → H' b = H b) → φ H' a own
def isOpq : MO → Bool
  | .opq _ => true
  | _ => false
structure FS (K : PySem.W.Frag) (F : Hp) (S : MS) (H : Hp) : Prop where
  fr : ∀ a o, F a = some o → H a = some o
  st : ∀ a m, S a = some m → F a = none ∧ MOk K F S H a m
  one : ∀ a b m n, S a = some m → S b = some n → isOpq m = true → isOpq n = true → a = b
section
variable {K : PySem.W.Frag} {F F' : Hp} {S S' : MS} {H H' : Hp}
theorem FS.notS (x : FS K F S H) {a : Addr} (h : H a = none) : S a = none ∧ F a = none := by
  refine ⟨?_, ?_⟩
  · cases q : S a with
    | none => rfl
    | some m =>
      obtain ⟨_, ok⟩ := x.st a m q
      cases m with
      | lst ds => obtain ⟨vs, e, _⟩ := ok; rw [e] at h; cases h
      | dic ks ds => obtain ⟨vs, e, _⟩ := ok; rw [e] at h; cases h
      | ins C ns ds => obtain ⟨dx, vs, e, _⟩ := ok; rw [e] at h; cases h
      | opq φ => obtain ⟨own, _, e, _⟩ := ok; rw [h] at e; cases e
  · cases q : F a with
    | none => rfl
    | some o =>
      rw [x.fr a o q] at h
      cases h
/-- a thing known by what is true of it, in another state -/
theorem opq_move {a : Addr} {φ : Hp → Addr → List Addr → Prop} (ok : MOk K F S H a (.opq φ)) (ha : H' a = H a)
    (hc : ∀ c, F c = none → S c = none → c ≠ a → (H c).isSome = true → F' c = none ∧ S' c = none ∧ H' c = H c) : MOk K F' S' H' a (.opq φ) := by
  obtain ⟨own, ho, hs, hf⟩ := ok
  refine ⟨own, fun c h => ?_, by rw [ha]; exact hs, fun H'' hH => hf H'' fun b hb => ?_⟩
  · obtain ⟨h1, h2, h3, h4⟩ := ho c h
    obtain ⟨k1, k2, k3⟩ := hc c h1 h2 h3 h4
    exact ⟨k1, k2, h3, by rw [k3]; exact h4⟩
  · rw [hH b hb]
    rcases hb with rfl | hb
    · exact ha
    · obtain ⟨h1, h2, h3, h4⟩ := ho b hb
      exact (hc b h1 h2 h3 h4).2.2
/-- any thing that may change, in another state -/
theorem mok_move {a : Addr} {m : MO} (ok : MOk K F S H a m) (ex : ExF F F') (ha : H' a = H a)
    (hc : ∀ c, F c = none → S c = none → c ≠ a → (H c).isSome = true → F' c = none ∧ S' c = none ∧ H' c = H c) : MOk K F' S' H' a m := by
  cases m with
  | lst ds => obtain ⟨vs, e1, r⟩ := ok; exact ⟨vs, by rw [ha]; exact e1, r.up ex⟩
  | dic ks ds => obtain ⟨vs, e1, e2, r⟩ := ok; exact ⟨vs, by rw [ha]; exact e1, e2, r.up ex⟩
  | ins C ns ds => obtain ⟨dx, vs, e1, e2, r⟩ := ok; exact ⟨dx, vs, by rw [ha]; exact e1, e2, r.up ex⟩
  | opq φ => exact opq_move ok ha hc
theorem isSome_ne {a p : Addr} (h : (H a).isSome = true) (hp : H p = none) : a ≠ p := fun z => by
  rw [z, hp] at h
  cases h
/-- the frozen part grows by a new object -/
theorem FS.grow (x : FS K F S H) {p : Addr} {o : HO} (hp : H p = none) : FS K (upd F p o) S (upd H p o) := by
  obtain ⟨sp, fp⟩ := x.notS hp
  refine ⟨fun a u e => ?_, fun a m e => ?_, x.one⟩
  · by_cases h : a = p
    · subst h
      rw [upd_same] at e ⊢
      exact e
    · rw [upd_ne h] at e ⊢
      exact x.fr a u e
  · have hap : a ≠ p := MS.ne_of e sp
    obtain ⟨f, ok⟩ := x.st a m e
    exact ⟨by rw [upd_ne hap]; exact f, mok_move ok (ExF.new fp) (upd_ne hap) fun c h1 h2 h3 h4 => ⟨by rw [upd_ne (isSome_ne h4 hp)]; exact h1, h2, upd_ne (isSome_ne h4 hp)⟩⟩
/-- a new object that is forgotten -/
theorem FS.drop (x : FS K F S H) {p : Addr} {o : HO} (hp : H p = none) : FS K F S (upd H p o) := by
  obtain ⟨sp, fp⟩ := x.notS hp
  refine ⟨fun a u e => ?_, fun a m e => ?_, x.one⟩
  · rw [upd_ne (ne_of_none e fp)]
    exact x.fr a u e
  · have hap : a ≠ p := MS.ne_of e sp
    obtain ⟨f, ok⟩ := x.st a m e
    exact ⟨f, mok_move ok (ExF.refl F) (upd_ne hap) fun c h1 h2 h3 h4 => ⟨h1, h2, upd_ne (isSome_ne h4 hp)⟩⟩
/-- a new object that may change -/
theorem FS.alloc (x : FS K F S H) {p : Addr} {o : HO} {m : MO} (hp : H p = none) (nm : isOpq m = false) (ok : MOk K F (S.set p m) (upd H p o) p m) : FS K F (S.set p m) (upd H p o) := by
  obtain ⟨sp, fp⟩ := x.notS hp
  refine ⟨(x.drop hp).fr, fun a n e => ?_, fun a b u v h1 h2 h3 h4 => ?_⟩
  · by_cases h : a = p
    · subst h
      rw [MS.set_same] at e
      cases e
      exact ⟨fp, ok⟩
    · rw [MS.set_ne h] at e
      obtain ⟨f, k⟩ := x.st a n e
      exact ⟨f, mok_move k (ExF.refl F) (upd_ne h) fun c h1 h2 h3 h4 => ⟨h1, by rw [MS.set_ne (isSome_ne h4 hp)]; exact h2, upd_ne (isSome_ne h4 hp)⟩⟩
  · by_cases ha : a = p
    · subst ha
      rw [MS.set_same] at h1
      cases h1
      rw [nm] at h3
      cases h3
    · by_cases hb : b = p
      · subst hb
        rw [MS.set_same] at h2
        cases h2
        rw [nm] at h4
        cases h4
      · rw [MS.set_ne ha] at h1
        rw [MS.set_ne hb] at h2
        exact x.one a b u v h1 h2 h3 h4
/-- one that stands is changed -/
theorem FS.write (x : FS K F S H) {p : Addr} {o : HO} {m n : MO} (hp : S p = some m) (nm : isOpq n = false) (ok : MOk K F (S.set p n) (upd H p o) p n) : FS K F (S.set p n) (upd H p o) := by
  obtain ⟨fp, okp⟩ := x.st p m hp
  refine ⟨fun a u e => ?_, fun a k e => ?_, fun a b u v h1 h2 h3 h4 => ?_⟩
  · rw [upd_ne (ne_of_none e fp)]
    exact x.fr a u e
  · by_cases h : a = p
    · subst h
      rw [MS.set_same] at e
      cases e
      exact ⟨fp, ok⟩
    · rw [MS.set_ne h] at e
      obtain ⟨f, k'⟩ := x.st a k e
      have ne : ∀ c, S c = none → c ≠ p := fun c z q => by
        rw [q, hp] at z
        cases z
      exact ⟨f, mok_move k' (ExF.refl F) (upd_ne h) fun c h1 h2 h3 h4 => ⟨h1, by rw [MS.set_ne (ne c h2)]; exact h2, upd_ne (ne c h2)⟩⟩
  · by_cases ha : a = p
    · subst ha
      rw [MS.set_same] at h1
      cases h1
      rw [nm] at h3
      cases h3
    · by_cases hb : b = p
      · subst hb
        rw [MS.set_same] at h2
        cases h2
        rw [nm] at h4
        cases h4
      · rw [MS.set_ne ha] at h1
        rw [MS.set_ne hb] at h2
        exact x.one a b u v h1 h2 h3 h4
/-- a list that changes no more -/
theorem FS.freeze (x : FS K F S H) {p : Addr} {ds : List D} (hp : S p = some (.lst ds)) : ∃ vs, H p = some (.lst vs) ∧ Reps K F ds vs ∧ FS K (upd F p (.lst vs)) (S.del p) H := by
  obtain ⟨fp, vs, e, r⟩ := x.st p _ hp
  refine ⟨vs, e, r, fun a u h => ?_, fun a m h => ?_, fun a b u v h1 h2 => x.one a b u v (Sub.del a u h1) (Sub.del b v h2)⟩
  · by_cases ha : a = p
    · subst ha
      rw [upd_same] at h
      rw [e]
      exact h
    · rw [upd_ne ha] at h
      exact x.fr a u h
  · have h0 := Sub.del a m h
    have ha : a ≠ p := fun z => by
      subst z
      simp only [MS.del, if_pos] at h
      cases h
    obtain ⟨f, k⟩ := x.st a m h0
    have ne : ∀ c, S c = none → c ≠ p := fun c z q => by
      rw [q, hp] at z
      cases z
    refine ⟨by rw [upd_ne ha]; exact f, mok_move k (ExF.new fp) rfl fun c h1 h2 h3 h4 => ⟨by rw [upd_ne (ne c h2)]; exact h1, ?_, rfl⟩⟩
    simp only [MS.del, if_neg (ne c h2)]
    exact h2
theorem FS.sub (x : FS K F S H) {S0 : MS} (s : Sub S0 S) : FS K F S0 H :=
  ⟨x.fr, fun a m e => let ⟨f, k⟩ := x.st a m (s a m e); ⟨f, mok_move k (ExF.refl F) rfl fun c h1 h2 h3 h4 => ⟨h1, s.none h2, rfl⟩⟩, fun a b u v h1 h2 => x.one a b u v (s a u h1) (s b v h2)⟩
end
end DL
/-! DL2: the judgements over data: a state's match, expressions, tests, arguments. -/
namespace DL
open PySem PySem.Spec PyProof.Rows L2
/-! ### reading through the store -/
def rdM (a : Addr) : Option MO → D
  | some (.lst ds) => .lst ds
  | some (.dic ks ds) => .dic ks ds
  | some (.ins C ns ds) => .obj C ns ds
  | _ => .ref a
def rd (S : MS) : D → D
  | .ref a => rdM a (S a)
  | d => d
/-- a datum's top in the heap, what it holds in the part that stays -/
def RepT (K : PySem.W.Frag) (F H : Hp) : D → V → Prop
  | .lst ds, v => ∃ a vs, v = .ref a ∧ Rd H a (.lst vs) ∧ Reps K F ds vs
  | .tup ds, v => ∃ a vs, v = .ref a ∧ SqT K H a vs ∧ Reps K F ds vs ∧ Rep K F (.tup ds) v
  | .dic ks ds, v => ∃ (a : Addr) (kvs : List (Key × V)), v = .ref a ∧ H a = some (.dK kvs) ∧ kvs.map (·.1) = ks ∧ Reps K F ds (kvs.map (·.2))
  | .obj C ns ds, v => ∃ (a dx : Addr) (fs : List (Str × V)), v = .ref a ∧ H a = some (.ins C dx fs) ∧ fs.map (·.1) = ns ∧ Reps K F ds (fs.map (·.2))
  | d, v => Rep K F d v
section
variable {K : PySem.W.Frag} {F F' : Hp} {S S' : MS} {H H' : Hp}
theorem RepT.of (x : FS K F S H) {d : D} {v : V} (h : Rep K F d v) : RepT K F H d v := by
  cases h with
  | non => exact Rep.non
  | bl b => exact Rep.bl b
  | int i => exact Rep.int i
  | str s => exact Rep.str s
  | tup h1 h2 => exact ⟨_, _, rfl, exf_t x.fr h1, h2, .tup h1 h2⟩
  | lst h1 h2 => exact ⟨_, _, rfl, exf_rd x.fr h1, h2⟩
  | dic h1 h2 h3 => exact ⟨_, _, rfl, x.fr _ _ h1, h2, h3⟩
  | obj h1 h2 h3 => exact ⟨_, _, _, rfl, x.fr _ _ h1, h2, h3⟩
  | ref a => exact Rep.ref a
theorem rd_ok (x : FS K F S H) {d : D} {v : V} (h : Rep K F d v) : RepT K F H (rd S d) v := by
  cases d with
  | ref a =>
    cases h
    show RepT K F H (rdM a (S a)) (.ref a)
    cases e : S a with
    | none => exact Rep.ref a
    | some m =>
      obtain ⟨_, ok⟩ := x.st a m e
      cases m with
      | lst ds => obtain ⟨vs, e1, r⟩ := ok; exact ⟨a, vs, rfl, .inl e1, r⟩
      | dic ks ds => obtain ⟨kvs, e1, e2, r⟩ := ok; exact ⟨a, kvs, rfl, e1, e2, r⟩
      | ins C ns ds => obtain ⟨dx, fs, e1, e2, r⟩ := ok; exact ⟨a, dx, fs, rfl, e1, e2, r⟩
      | opq φ => exact Rep.ref a
  | _ => exact RepT.of x h
end
/-! ### the state's match -/
abbrev Rho := List (Option D)
abbrev KD := D → Rho → MS → Prop
abbrev WE := Rho → MS → KD → Prop
abbrev WT := Rho → MS → (Bool → Rho → MS → Prop) → Prop
abbrev WA := Rho → MS → (List D → Rho → MS → Prop) → Prop
abbrev KV2 := D → MS → Prop
/-- an exception, by its class and what its fields hold -/
abbrev DXC := Addr → List D → MS → Prop
def ExRep (K : PySem.W.Frag) (F H : Hp) (e : Value) (d : Option Addr) (C : Addr) (xs : List D) : Prop :=
  e = .ref C ∧ ((d = none ∧ xs = []) ∨ ∃ (da : Addr) (fs : List (Str × V)), d = some da ∧ H da = some (.xd fs) ∧ Reps K F xs (fs.map (·.2)))
structure Lk where
  E : XK
  ex : DXC
structure Mt (K : PySem.W.Frag) (L : Lk) (F : Hp) (ρ : Rho) (S : MS) (σ : L2.St) (H : Hp) : Prop where
  fs : FS K F S H
  sl : ∀ (i : Nat) (d : D), ρ[i]? = some (some d) → ∃ v, σ[i]? = some (some v) ∧ Rep K F d v
  len : ρ.length ≤ σ.length
  lk : ∀ (F' : Hp) (S' : MS) (H' : Hp) (e : Value) (d : Option Addr) (C : Addr) (xs : List D), ExF F F' → FS K F' S' H' → ExRep K F' H' e d C xs → L.ex C xs S' → L.E e d H'
section
variable {K : PySem.W.Frag} {L : Lk} {F F' : Hp} {ρ : Rho} {S S' : MS} {σ : L2.St} {H H' : Hp}
theorem Mt.step (m : Mt K L F ρ S σ H) (e : ExF F F') (x : FS K F' S' H') : Mt K L F' ρ S' σ H' :=
  ⟨x, fun i d h => let ⟨v, a, b⟩ := m.sl i d h; ⟨v, a, b.up e⟩, m.len, fun F2 S2 H2 ee d C xs e2 => m.lk F2 S2 H2 ee d C xs (e.trans e2)⟩
theorem Mt.store (m : Mt K L F ρ S σ H) {i : Nat} {d : D} {v : V} (r : Rep K F d v) : Mt K L F (ρ.set i (some d)) S (σ.set i (some v)) H := by
  refine ⟨m.fs, fun j d' h => ?_, by rw [List.length_set, List.length_set]; exact m.len, m.lk⟩
  by_cases hj : i = j
  · subst hj
    by_cases hl : i < ρ.length
    · rw [List.getElem?_set_self hl] at h
      cases h
      exact ⟨v, List.getElem?_set_self (Nat.lt_of_lt_of_le hl m.len), r⟩
    · rw [List.getElem?_eq_none (by simpa using hl)] at h
      cases h
  · rw [List.getElem?_set_ne hj] at h ⊢
    exact m.sl j d' h
/-- the view of a slot is changed, the slot is not -/
theorem Mt.view (m : Mt K L F ρ S σ H) {i : Nat} {d : D} {v : V} (hs : σ[i]? = some (some v)) (r : Rep K F d v) : Mt K L F (ρ.set i (some d)) S σ H := by
  refine ⟨m.fs, fun j d' h => ?_, by rw [List.length_set]; exact m.len, m.lk⟩
  by_cases hj : i = j
  · subst hj
    by_cases hl : i < ρ.length
    · rw [List.getElem?_set_self hl] at h
      cases h
      exact ⟨v, hs, r⟩
    · rw [List.getElem?_eq_none (by simpa using hl)] at h
      cases h
  · rw [List.getElem?_set_ne hj] at h
    exact m.sl j d' h
end
/-! ### what a reading over values does over data -/
/-- behind an evaluation: the value d, the view ρ', the store S' -/
def KE (K : PySem.W.Frag) (L : Lk) (F : Hp) (σ : L2.St) (Q : KD) (R : VK) : Prop :=
  ∀ v H' d ρ' S' F', ExF F F' → Mt K L F' ρ' S' σ H' → Rep K F' d v → Q d ρ' S' → R v H'
def RE (K : PySem.W.Frag) (L : Lk) (t : TE) (w : WE) : Prop :=
  ∀ F ρ S σ H Q R, Mt K L F ρ S σ H → w ρ S Q → KE K L F σ Q R → t σ H R
def RT (K : PySem.W.Frag) (L : Lk) (t : TT) (w : WT) : Prop :=
  ∀ F ρ S σ H (Q : Bool → Rho → MS → Prop) (R : Bool → Hp → Prop), Mt K L F ρ S σ H → w ρ S Q →
    (∀ b H' ρ' S' F', ExF F F' → Mt K L F' ρ' S' σ H' → Q b ρ' S' → R b H') → t σ H R
def RA (K : PySem.W.Frag) (L : Lk) (t : TA) (w : WA) : Prop :=
  ∀ F ρ S σ H (Q : List D → Rho → MS → Prop) (R : List V → Hp → Prop), Mt K L F ρ S σ H → w ρ S Q →
    (∀ vs H' ds ρ' S' F', ExF F F' → Mt K L F' ρ' S' σ H' → Reps K F' ds vs → Q ds ρ' S' → R vs H') → t σ H R
structure DE (X : Cx) (L : Lk) (e : Expr) (t : TE) (w : WE) : Prop where
  pe : PE X e t
  re : RE X.K L t w
structure DT (X : Cx) (L : Lk) (e : Expr) (t : TT) (w : WT) : Prop where
  pt : PT X e t
  rt : RT X.K L t w
structure DW (X : Cx) (L : Lk) (e : Expr) (t : TT) (w : WT) : Prop where
  pw : PW X e t
  rt : RT X.K L t w
structure DA (X : Cx) (L : Lk) (es : List Expr) (t : TA) (w : WA) : Prop where
  pa : PA X es t
  ra : RA X.K L t w
/-! ### values' operations -/
/-- behind an operation on values -/
def KO (K : PySem.W.Frag) (F : Hp) (Q : KV2) (R : VK) : Prop := ∀ v H' d S' F', ExF F F' → FS K F' S' H' → Rep K F' d v → Q d S' → R v H'
def RO2 (K : PySem.W.Frag) (r : R2) (wo : D → D → MS → KV2 → Prop) : Prop :=
  ∀ F S H x y vx vy Q R, FS K F S H → RepT K F H x vx → RepT K F H y vy → wo x y S Q → KO K F Q R → r vx vy H R
def RO1 (K : PySem.W.Frag) (r : V → Hp → VK → Prop) (wo : D → MS → KV2 → Prop) : Prop :=
  ∀ F S H x vx Q R, FS K F S H → RepT K F H x vx → wo x S Q → KO K F Q R → r vx H R
def ROc (K : PySem.W.Frag) (r : List V → Hp → VK → Prop) (wo : List D → MS → KV2 → Prop) : Prop :=
  ∀ F S H xs vs Q R, FS K F S H → Reps K F xs vs → wo xs S Q → KO K F Q R → r vs H R
section
variable {K : PySem.W.Frag} {L : Lk} {F : Hp} {ρ : Rho} {S : MS} {σ : L2.St} {H : Hp}
/-- an operation that makes nothing -/
theorem KO.here {Q : KV2} {R : VK} (k : KO K F Q R) (x : FS K F S H) {d : D} {v : V} (r : Rep K F d v) (q : Q d S) : R v H := k v H d S F (ExF.refl F) x r q
/-- a new list: m says whether it may change -/
def newL (m : Bool) (xs : List D) (S : MS) (Q : KV2) : Prop := if m = true then ∀ a, S a = none → Q (.ref a) (S.set a (.lst xs)) else Q (.lst xs) S
theorem newL_ok {m : Bool} {xs : List D} {vs : List V} {Q : KV2} {R : VK} (k : KO K F Q R) (x : FS K F S H) (r : Reps K F xs vs) (q : newL m xs S Q) {p : Addr} (hp : H p = none) : R (.ref p) (upd H p (.lst vs)) := by
  obtain ⟨sp, fp⟩ := x.notS hp
  cases m with
  | true =>
    exact k _ _ _ _ F (ExF.refl F) (x.alloc (m := .lst xs) hp rfl ⟨vs, upd_same, r⟩) (.ref p) (q p sp)
  | false =>
    exact k _ _ _ _ _ (ExF.new fp) (x.grow hp) (.lst (.inl upd_same) (r.up (ExF.new fp))) q
theorem newT_ok {xs : List D} {vs : List V} {Q : KV2} {R : VK} (k : KO K F Q R) (x : FS K F S H) (r : Reps K F xs vs) (q : Q (.tup xs) S) {p : Addr} (hp : H p = none) : R (.ref p) (upd H p (.tup vs)) := by
  obtain ⟨sp, fp⟩ := x.notS hp
  exact k _ _ _ _ _ (ExF.new fp) (x.grow hp) (.tup (SqT.of upd_same) (r.up (ExF.new fp))) q
end
/-! ### expressions -/
section
variable {X : Cx} {L : Lk} {a b c : Expr} {ta tb tc : TE} {wa wb wc : WE} {pos : Pos}
def wVar (i : Nat) : WE := fun ρ S Q => ∃ d, ρ[i]? = some (some d) ∧ Q d ρ S
theorem re_var {K : PySem.W.Frag} {i : Nat} : RE K L (tVar i) (wVar i) := by
  rintro F ρ S σ H Q R m ⟨d, h, q⟩ k
  obtain ⟨v, hv, r⟩ := m.sl i d h
  exact ⟨v, hv, k v H d ρ S F (ExF.refl F) m r q⟩
/-- a list that changes no more, from here on -/
def wVarF (i : Nat) : WE := fun ρ S Q => ∃ a ds, ρ[i]? = some (some (.ref a)) ∧ S a = some (.lst ds) ∧ Q (.lst ds) (ρ.set i (some (.lst ds))) (S.del a)
theorem re_varF {K : PySem.W.Frag} {i : Nat} : RE K L (tVar i) (wVarF i) := by
  rintro F ρ S σ H Q R m ⟨a, ds, h, hs, q⟩ k
  obtain ⟨v, hv, r⟩ := m.sl i _ h
  cases r
  obtain ⟨vs, e, r, x⟩ := m.fs.freeze hs
  have fa := (m.fs.st a _ hs).1
  have ex : ExF F (upd F a (.lst vs)) := ExF.new fa
  have rr : Rep K (upd F a (.lst vs)) (.lst ds) (.ref a) := .lst (.inl upd_same) (r.up ex)
  exact ⟨_, hv, k _ H _ _ _ _ ex ((m.step ex x).view hv rr) rr q⟩
def wC (d : D) : WE := fun ρ S Q => Q d ρ S
theorem re_c {K : PySem.W.Frag} {d : D} {v : V} (h : ∀ F, Rep K F d v) : RE K L (tC v) (wC d) := fun F ρ S σ H Q R m q k => k v H d ρ S F (ExF.refl F) m (h F) q
theorem de_var (i : Nat) {x : Str} {pos : Pos} (hN : X.N[i]? = some x := by rfl) (hv : Vis X.env.scope x := by first | exact Or.inl rfl | exact Or.inr (Or.inl rfl) | exact Or.inr (Or.inr rfl)) (hd : (x == ("__debug__" : Str)) = false := by decide)
    (hcd : (x == ("__classdict__" : Str)) = false := by decide) : DE X L (.Name x pos) (tVar i) (wVar i) := ⟨pe_var hN hv hd hcd, re_var⟩
theorem de_varF (i : Nat) {x : Str} {pos : Pos} (hN : X.N[i]? = some x := by rfl) (hv : Vis X.env.scope x := by first | exact Or.inl rfl | exact Or.inr (Or.inl rfl) | exact Or.inr (Or.inr rfl)) (hd : (x == ("__debug__" : Str)) = false := by decide)
    (hcd : (x == ("__classdict__" : Str)) = false := by decide) : DE X L (.Name x pos) (tVar i) (wVarF i) := ⟨pe_var hN hv hd hcd, re_varF⟩
theorem de_int {i : Int} {j : Nat} {pos : Pos} : DE X L (.Constant (.int i) j pos) (tC (.int i)) (wC (.int i)) := ⟨pe_int, re_c fun _ => .int i⟩
theorem de_bl {b : Bool} {j : Nat} {pos : Pos} : DE X L (.Constant (.bool b) j pos) (tC (.bl b)) (wC (.bl b)) := ⟨pe_bl, re_c fun _ => .bl b⟩
theorem de_non {j : Nat} {pos : Pos} : DE X L (.Constant .none j pos) (tC .non) (wC .non) := ⟨pe_non, re_c fun _ => .non⟩
theorem de_str {x : Str} {j : Nat} {pos : Pos} : DE X L (.Constant (.str x) j pos) (tC (.str x)) (wC (.str x)) := ⟨pe_str, re_c fun _ => .str x⟩
/-- a module's number -/
theorem de_gint {x : Str} {i : Int} {pos : Pos} (hg : Gl X x) (hm : ∃ t, X.mg x = some (.int i t)) (hd : (x == ("__debug__" : Str)) = false := by decide) : DE X L (.Name x pos) (tC (.int i)) (wC (.int i)) :=
  let ⟨t, h⟩ := hm; ⟨pe_glob hg h ⟨t, rfl⟩ hd, re_c fun _ => .int i⟩
def wOp (wo : D → D → MS → KV2 → Prop) (wa wb : WE) : WE := fun ρ S Q => wa ρ S fun x ρ1 S1 => wb ρ1 S1 fun y ρ2 S2 => wo (rd S2 x) (rd S2 y) S2 fun d S3 => Q d ρ2 S3
theorem re_op {K : PySem.W.Frag} {r : R2} {wo : D → D → MS → KV2 → Prop} (hr : RO2 K r wo) (ha : RE K L ta wa) (hb : RE K L tb wb) : RE K L (tOp r ta tb) (wOp wo wa wb) := by
  intro F ρ S σ H Q R m q k
  refine ha F ρ S σ H _ _ m q fun x H1 dx ρ1 S1 F1 e1 m1 r1 q1 => ?_
  refine hb F1 ρ1 S1 σ H1 _ _ m1 q1 fun y H2 dy ρ2 S2 F2 e2 m2 r2 q2 => ?_
  refine hr F2 S2 H2 _ _ x y _ _ m2.fs (rd_ok m2.fs (r1.up e2)) (rd_ok m2.fs r2) q2 fun v H3 d S3 F3 e3 x3 r3 q3 => ?_
  exact k v H3 d ρ2 S3 F3 ((e1.trans e2).trans e3) (m2.step e3 x3) r3 q3
theorem de_op {op : Operator} {r : R2} {wo : D → D → MS → KV2 → Prop} (ho : OpR X (binaryOp op) r) (hr : RO2 X.K r wo) (ha : DE X L a ta wa) (hb : DE X L b tb wb) : DE X L (.BinOp a op b pos) (tOp r ta tb) (wOp wo wa wb) :=
  ⟨pe_op ho ha.pe hb.pe, re_op hr ha.re hb.re⟩
def wUn (wo : D → MS → KV2 → Prop) (wa : WE) : WE := fun ρ S Q => wa ρ S fun x ρ1 S1 => wo (rd S1 x) S1 fun d S2 => Q d ρ1 S2
theorem re_un {K : PySem.W.Frag} {r : V → Hp → VK → Prop} {wo : D → MS → KV2 → Prop} (hr : RO1 K r wo) (ha : RE K L ta wa) : RE K L (tUn r ta) (wUn wo wa) := by
  intro F ρ S σ H Q R m q k
  refine ha F ρ S σ H _ _ m q fun x H1 dx ρ1 S1 F1 e1 m1 r1 q1 => ?_
  refine hr F1 S1 H1 _ x _ _ m1.fs (rd_ok m1.fs r1) q1 fun v H3 d S3 F3 e3 x3 r3 q3 => ?_
  exact k v H3 d ρ1 S3 F3 (e1.trans e3) (m1.step e3 x3) r3 q3
theorem de_un {op : UnaryOp} {r : V → Hp → VK → Prop} {wo : D → MS → KV2 → Prop} (ho : UnR X (unaryOp op) r) (hr : RO1 X.K r wo) (ha : DE X L a ta wa) : DE X L (.UnaryOp op a pos) (tUn r ta) (wUn wo wa) :=
  ⟨pe_un ho ha.pe, re_un hr ha.re⟩
theorem de_cmp {op : CmpOp} {r : R2} {wo : D → D → MS → KV2 → Prop} (ho : OpR X (compareOp op) r) (hr : RO2 X.K r wo) (ha : DE X L a ta wa) (hb : DE X L b tb wb) (hm : behindInMarks op b = false) :
    DE X L (.Compare a [op] [b] pos) (tOp r ta tb) (wOp wo wa wb) := ⟨pe_cmpR ho ha.pe hb.pe hm, re_op hr ha.re hb.re⟩
/-- a value that is a flag, as a test -/
def wTe (wa : WE) : WT := fun ρ S Q => wa ρ S fun x ρ1 S1 => ∃ k, x = .bl k ∧ Q k ρ1 S1
theorem rt_test {K : PySem.W.Frag} (ha : RE K L ta wa) : RT K L (tTest ta) (wTe wa) := by
  intro F ρ S σ H Q R m q k
  refine ha F ρ S σ H _ _ m q fun x H1 dx ρ1 S1 F1 e1 m1 r1 ⟨b, e, q1⟩ => ?_
  subst e
  cases r1
  exact ⟨b, rfl, k b H1 ρ1 S1 F1 e1 m1 q1⟩
theorem rt_B {K : PySem.W.Frag} (ha : RE K L ta wa) : RT K L (tB ta) (wTe wa) := rt_test ha
theorem dt_cmp {op : CmpOp} {r : R2} {wo : D → D → MS → KV2 → Prop} (ho : OpR X (compareOp op) r) (hr : RO2 X.K r wo) (ha : DE X L a ta wa) (hb : DE X L b tb wb) (hm : behindInMarks op b = false) :
    DT X L (.Compare a [op] [b] pos) (tTest (tOp r ta tb)) (wTe (wOp wo wa wb)) := ⟨pt_cmpR ho ha.pe hb.pe hm, rt_test (re_op hr ha.re hb.re)⟩
theorem dt_val {e : Expr} {t : TE} {w : WE} (h : DE X L e t w) (he : ∀ whole, isTrue e X.env whole = (do let v ← whole; standAt e.pos; holding [v] (truthy v)) := by intro _; rfl) : DT X L e (tB t) (wTe w) := ⟨pt_val h.pe he, rt_B h.re⟩
/-- chains -/
def wCh (wo wo' : D → D → MS → KV2 → Prop) (wa wb wc : WE) : WE := fun ρ S Q => wa ρ S fun x ρ1 S1 => wb ρ1 S1 fun y ρ2 S2 => wo (rd S2 x) (rd S2 y) S2 fun d S3 => ∃ k, d = .bl k ∧
  (if k = true then wc ρ2 S3 fun z ρ4 S4 => wo' (rd S4 y) (rd S4 z) S4 fun d' S5 => Q d' ρ4 S5 else Q (.bl false) ρ2 S3)
theorem re_ch {K : PySem.W.Frag} {r r' : R2} {wo wo' : D → D → MS → KV2 → Prop} (hr : RO2 K r wo) (hr' : RO2 K r' wo') (ha : RE K L ta wa) (hb : RE K L tb wb) (hc : RE K L tc wc) : RE K L (tChain r r' ta tb tc) (wCh wo wo' wa wb wc) := by
  intro F ρ S σ H Q R m q k
  refine ha F ρ S σ H _ _ m q fun x H1 dx ρ1 S1 F1 e1 m1 r1 q1 => ?_
  refine hb F1 ρ1 S1 σ H1 _ _ m1 q1 fun y H2 dy ρ2 S2 F2 e2 m2 r2 q2 => ?_
  refine hr F2 S2 H2 _ _ x y _ _ m2.fs (rd_ok m2.fs (r1.up e2)) (rd_ok m2.fs r2) q2 fun v H3 d S3 F3 e3 x3 r3 ⟨kk, e, q3⟩ => ?_
  subst e
  cases r3
  have m3 := m2.step e3 x3
  refine ⟨kk, rfl, ?_⟩
  cases kk with
  | false =>
    rw [if_neg Bool.false_ne_true] at q3 ⊢
    exact k _ H3 _ ρ2 S3 F3 ((e1.trans e2).trans e3) m3 (.bl false) q3
  | true =>
    rw [if_pos rfl] at q3 ⊢
    refine hc F3 ρ2 S3 σ H3 _ _ m3 q3 fun z H4 dz ρ4 S4 F4 e4 m4 r4 q4 => ?_
    refine hr' F4 S4 H4 _ _ y z _ _ m4.fs (rd_ok m4.fs ((r2.up e3).up e4)) (rd_ok m4.fs r4) q4 fun v H5 d5 S5 F5 e5 x5 r5 q5 => ?_
    exact k v H5 d5 ρ4 S5 F5 ((((e1.trans e2).trans e3).trans e4).trans e5) (m4.step e5 x5) r5 q5
theorem de_ch {op op' : CmpOp} {r r' : R2} {wo wo' : D → D → MS → KV2 → Prop} (ho : OpR X (compareOp op) r) (ho' : OpR X (compareOp op') r') (hr : RO2 X.K r wo) (hr' : RO2 X.K r' wo') (ha : DE X L a ta wa) (hb : DE X L b tb wb) (hc : DE X L c tc wc)
    (hm : lastMarks [op, op'] [b, c] = false := by with_unfolding_all rfl) : DE X L (.Compare a [op, op'] [b, c] pos) (tChain r r' ta tb tc) (wCh wo wo' wa wb wc) := ⟨pe_chain ho ho' ha.pe hb.pe hc.pe hm, re_ch hr hr' ha.re hb.re hc.re⟩
theorem dt_ch {op op' : CmpOp} {r r' : R2} {wo wo' : D → D → MS → KV2 → Prop} (ho : OpR X (compareOp op) r) (ho' : OpR X (compareOp op') r') (hr : RO2 X.K r wo) (hr' : RO2 X.K r' wo') (ha : DE X L a ta wa) (hb : DE X L b tb wb) (hc : DE X L c tc wc)
    (hm : lastMarks [op, op'] [b, c] = false := by with_unfolding_all rfl) : DT X L (.Compare a [op, op'] [b, c] pos) (tTest (tChain r r' ta tb tc)) (wTe (wCh wo wo' wa wb wc)) := ⟨pt_chain ho ho' ha.pe hb.pe hc.pe hm, rt_test (re_ch hr hr' ha.re hb.re hc.re)⟩
/-! ### and, or, not, a if c else b -/
variable {rest : List Expr} {tA tB' : TT} {wA wB : WT}
def wAnd (w u : WT) : WT := fun ρ S Q => w ρ S fun c ρ1 S1 => if c = true then u ρ1 S1 Q else Q false ρ1 S1
def wOr (w u : WT) : WT := fun ρ S Q => w ρ S fun c ρ1 S1 => if c = true then Q true ρ1 S1 else u ρ1 S1 Q
def wNot (w : WT) : WT := fun ρ S Q => w ρ S fun c ρ1 S1 => Q (!c) ρ1 S1
theorem rt_and {K : PySem.W.Frag} (ha : RT K L tA wA) (hb : RT K L tB' wB) : RT K L (tAnd tA tB') (wAnd wA wB) := by
  intro F ρ S σ H Q R m q k
  refine ha F ρ S σ H _ _ m q fun c H1 ρ1 S1 F1 e1 m1 q1 => ?_
  cases c with
  | true =>
    rw [if_pos rfl] at q1 ⊢
    exact hb F1 ρ1 S1 σ H1 _ _ m1 q1 fun c H2 ρ2 S2 F2 e2 m2 q2 => k c H2 ρ2 S2 F2 (e1.trans e2) m2 q2
  | false =>
    rw [if_neg Bool.false_ne_true] at q1 ⊢
    exact k false H1 ρ1 S1 F1 e1 m1 q1
theorem rt_or {K : PySem.W.Frag} (ha : RT K L tA wA) (hb : RT K L tB' wB) : RT K L (tOr tA tB') (wOr wA wB) := by
  intro F ρ S σ H Q R m q k
  refine ha F ρ S σ H _ _ m q fun c H1 ρ1 S1 F1 e1 m1 q1 => ?_
  cases c with
  | false =>
    rw [if_neg Bool.false_ne_true] at q1 ⊢
    exact hb F1 ρ1 S1 σ H1 _ _ m1 q1 fun c H2 ρ2 S2 F2 e2 m2 q2 => k c H2 ρ2 S2 F2 (e1.trans e2) m2 q2
  | true =>
    rw [if_pos rfl] at q1 ⊢
    exact k true H1 ρ1 S1 F1 e1 m1 q1
theorem rt_not {K : PySem.W.Frag} (ha : RT K L tA wA) : RT K L (tNot tA) (wNot wA) := by
  intro F ρ S σ H Q R m q k
  exact ha F ρ S σ H _ _ m q fun c H1 ρ1 S1 F1 e1 m1 q1 => k (!c) H1 ρ1 S1 F1 e1 m1 q1
theorem dw_and1 (h : DT X L a tA wA) : DW X L (.BoolOp .And [a] pos) tA wA := ⟨pw_and1 h.pt, h.rt⟩
theorem dw_or1 (h : DT X L a tA wA) : DW X L (.BoolOp .Or [a] pos) tA wA := ⟨pw_or1 h.pt, h.rt⟩
theorem dw_and (h : DT X L a tA wA) (g : DW X L (.BoolOp .And (b :: rest) pos) tB' wB) : DW X L (.BoolOp .And (a :: b :: rest) pos) (tAnd tA tB') (wAnd wA wB) := ⟨pw_and h.pt g.pw, rt_and h.rt g.rt⟩
theorem dw_or (h : DT X L a tA wA) (g : DW X L (.BoolOp .Or (b :: rest) pos) tB' wB) : DW X L (.BoolOp .Or (a :: b :: rest) pos) (tOr tA tB') (wOr wA wB) := ⟨pw_or h.pt g.pw, rt_or h.rt g.rt⟩
theorem dt_w (h : DW X L a tA wA) : DT X L a tA wA := ⟨h.pw.pt, h.rt⟩
theorem dt_not (h : DT X L a tA wA) : DT X L (.UnaryOp .Not a pos) (tNot tA) (wNot wA) := ⟨pt_not h.pt, rt_not h.rt⟩
/-- .. as values -/
def wAndV (wa wb : WE) : WE := fun ρ S Q => wa ρ S fun x ρ1 S1 => ∃ c, x = .bl c ∧ if c = true then wb ρ1 S1 Q else Q (.bl false) ρ1 S1
def wOrV (wa wb : WE) : WE := fun ρ S Q => wa ρ S fun x ρ1 S1 => ∃ c, x = .bl c ∧ if c = true then Q (.bl true) ρ1 S1 else wb ρ1 S1 Q
def wNotV (wa : WE) : WE := fun ρ S Q => wa ρ S fun x ρ1 S1 => ∃ c, x = .bl c ∧ Q (.bl (!c)) ρ1 S1
theorem re_andV {K : PySem.W.Frag} (ha : RE K L ta wa) (hb : RE K L tb wb) : RE K L (tAndV ta tb) (wAndV wa wb) := by
  intro F ρ S σ H Q R m q k
  refine ha F ρ S σ H _ _ m q fun x H1 dx ρ1 S1 F1 e1 m1 r1 ⟨c, e, q1⟩ => ?_
  subst e
  cases r1
  refine ⟨c, rfl, ?_⟩
  cases c with
  | true =>
    rw [if_pos rfl] at q1 ⊢
    exact hb F1 ρ1 S1 σ H1 _ _ m1 q1 fun v H2 d ρ2 S2 F2 e2 m2 r2 q2 => k v H2 d ρ2 S2 F2 (e1.trans e2) m2 r2 q2
  | false =>
    rw [if_neg Bool.false_ne_true] at q1 ⊢
    exact k _ H1 _ ρ1 S1 F1 e1 m1 (.bl false) q1
theorem re_orV {K : PySem.W.Frag} (ha : RE K L ta wa) (hb : RE K L tb wb) : RE K L (tOrV ta tb) (wOrV wa wb) := by
  intro F ρ S σ H Q R m q k
  refine ha F ρ S σ H _ _ m q fun x H1 dx ρ1 S1 F1 e1 m1 r1 ⟨c, e, q1⟩ => ?_
  subst e
  cases r1
  refine ⟨c, rfl, ?_⟩
  cases c with
  | false =>
    rw [if_neg Bool.false_ne_true] at q1 ⊢
    exact hb F1 ρ1 S1 σ H1 _ _ m1 q1 fun v H2 d ρ2 S2 F2 e2 m2 r2 q2 => k v H2 d ρ2 S2 F2 (e1.trans e2) m2 r2 q2
  | true =>
    rw [if_pos rfl] at q1 ⊢
    exact k _ H1 _ ρ1 S1 F1 e1 m1 (.bl true) q1
theorem re_notV {K : PySem.W.Frag} (ha : RE K L ta wa) : RE K L (tNotV ta) (wNotV wa) := by
  intro F ρ S σ H Q R m q k
  refine ha F ρ S σ H _ _ m q fun x H1 dx ρ1 S1 F1 e1 m1 r1 ⟨c, e, q1⟩ => ?_
  subst e
  cases r1
  exact ⟨c, rfl, k _ H1 _ ρ1 S1 F1 e1 m1 (.bl _) q1⟩
theorem de_one {op : BoolOp} (h : DE X L a ta wa) : DE X L (.BoolOp op [a] pos) ta wa := ⟨pe_one h.pe, h.re⟩
theorem de_and (h : DE X L a ta wa) (g : DE X L (.BoolOp .And (b :: rest) pos) tb wb) : DE X L (.BoolOp .And (a :: b :: rest) pos) (tAndV ta tb) (wAndV wa wb) := ⟨pe_and h.pe g.pe, re_andV h.re g.re⟩
theorem de_or (h : DE X L a ta wa) (g : DE X L (.BoolOp .Or (b :: rest) pos) tb wb) : DE X L (.BoolOp .Or (a :: b :: rest) pos) (tOrV ta tb) (wOrV wa wb) := ⟨pe_or h.pe g.pe, re_orV h.re g.re⟩
theorem de_not (h : DE X L a ta wa) : DE X L (.UnaryOp .Not a pos) (tNotV ta) (wNotV wa) := ⟨pe_not h.pe, re_notV h.re⟩
def wIf (w : WT) (wa wb : WE) : WE := fun ρ S Q => w ρ S fun c ρ1 S1 => if c = true then wa ρ1 S1 Q else wb ρ1 S1 Q
theorem re_if {K : PySem.W.Frag} (h : RT K L tA wA) (ha : RE K L ta wa) (hb : RE K L tb wb) : RE K L (tIf tA ta tb) (wIf wA wa wb) := by
  intro F ρ S σ H Q R m q k
  refine h F ρ S σ H _ _ m q fun c H1 ρ1 S1 F1 e1 m1 q1 => ?_
  cases c with
  | true =>
    rw [if_pos rfl] at q1 ⊢
    exact ha F1 ρ1 S1 σ H1 _ _ m1 q1 fun v H2 d ρ2 S2 F2 e2 m2 r2 q2 => k v H2 d ρ2 S2 F2 (e1.trans e2) m2 r2 q2
  | false =>
    rw [if_neg Bool.false_ne_true] at q1 ⊢
    exact hb F1 ρ1 S1 σ H1 _ _ m1 q1 fun v H2 d ρ2 S2 F2 e2 m2 r2 q2 => k v H2 d ρ2 S2 F2 (e1.trans e2) m2 r2 q2
theorem de_if (h : DT X L c tA wA) (ha : DE X L a ta wa) (hb : DE X L b tb wb) : DE X L (.IfExp c a b pos) (tIf tA ta tb) (wIf wA wa wb) := ⟨pe_ifExp h.pt ha.pe hb.pe, re_if h.rt ha.re hb.re⟩
/-! ### arguments, displays -/
variable {es : List Expr} {tr : TA} {wr : WA}
def wNil : WA := fun ρ S Q => Q [] ρ S
def wCons (wa : WE) (wr : WA) : WA := fun ρ S Q => wa ρ S fun x ρ1 S1 => wr ρ1 S1 fun xs ρ2 S2 => Q (x :: xs) ρ2 S2
theorem ra_nil {K : PySem.W.Frag} : RA K L tNil wNil := fun F ρ S σ H Q R m q k => k [] H [] ρ S F (ExF.refl F) m .nil q
theorem ra_cons {K : PySem.W.Frag} (ha : RE K L ta wa) (hr : RA K L tr wr) : RA K L (tCons ta tr) (wCons wa wr) := by
  intro F ρ S σ H Q R m q k
  refine ha F ρ S σ H _ _ m q fun x H1 dx ρ1 S1 F1 e1 m1 r1 q1 => ?_
  exact hr F1 ρ1 S1 σ H1 _ _ m1 q1 fun vs H2 ds ρ2 S2 F2 e2 m2 r2 q2 => k _ H2 _ ρ2 S2 F2 (e1.trans e2) m2 (.cons (r1.up e2) r2) q2
theorem da_nil : DA X L [] tNil wNil := ⟨pa_nil, ra_nil⟩
theorem da_cons (h : DE X L a ta wa) (g : DA X L es tr wr) (hs : starEach (a :: es) X.env = (false, eval a X.env) :: starEach es X.env := by rfl) : DA X L (a :: es) (tCons ta tr) (wCons wa wr) := ⟨pa_cons h.pe g.pa hs, ra_cons h.re g.ra⟩
def wTup (wr : WA) : WE := fun ρ S Q => wr ρ S fun xs ρ1 S1 => xs.length ≤ sizeLine ∧ Q (.tup xs) ρ1 S1
def wLst (m : Bool) (wr : WA) : WE := fun ρ S Q => wr ρ S fun xs ρ1 S1 => xs.length ≤ sizeLine ∧ newL m xs S1 fun d S2 => Q d ρ1 S2
theorem re_tup {K : PySem.W.Frag} (h : RA K L tr wr) : RE K L (tTup tr) (wTup wr) := by
  intro F ρ S σ H Q R m q k
  refine h F ρ S σ H _ _ m q fun vs H1 ds ρ1 S1 F1 e1 m1 r1 ⟨z, q1⟩ => ⟨by rw [← r1.length]; exact z, fun p hp => ?_⟩
  exact newT_ok (Q := fun d S2 => Q d ρ1 S2) (fun v H' d S' F' e x r q => k v H' d ρ1 S' F' (e1.trans e) (m1.step e x) r q) m1.fs r1 q1 hp
theorem re_lst {K : PySem.W.Frag} {mu : Bool} (h : RA K L tr wr) : RE K L (tLst tr) (wLst mu wr) := by
  intro F ρ S σ H Q R m q k
  refine h F ρ S σ H _ _ m q fun vs H1 ds ρ1 S1 F1 e1 m1 r1 ⟨z, q1⟩ => ⟨by rw [← r1.length]; exact z, fun p hp => ?_⟩
  exact newL_ok (Q := fun d S2 => Q d ρ1 S2) (fun v H' d S' F' e x r q => k v H' d ρ1 S' F' (e1.trans e) (m1.step e x) r q) m1.fs r1 q1 hp
theorem de_tup {x1} (h : DA X L es tr wr) : DE X L (.Tuple es x1 pos) (tTup tr) (wTup wr) := ⟨pe_tup h.pa, re_tup h.ra⟩
theorem de_lst (m : Bool) (h : DA X L es tr wr) : DE X L (.List es pos) (tLst tr) (wLst m wr) := ⟨pe_lst h.pa, re_lst h.ra⟩
end
end DL
/-! DL3: statements, targets, loops, comprehensions over data. -/
namespace DL
open PySem PySem.Spec PyProof.Rows L2
structure DEnds where
  nx : Rho → MS → Prop
  rt : D → MS → Prop
  bk : Rho → MS → Prop := fun _ _ => False
  ct : Rho → MS → Prop := fun _ _ => False
abbrev WS := DEnds → Rho → MS → Prop
structure LE (K : PySem.W.Frag) (L : Lk) (F : Hp) (De : DEnds) (D : Ends) : Prop where
  nx : ∀ F' ρ' S' σ' H', ExF F F' → Mt K L F' ρ' S' σ' H' → De.nx ρ' S' → D.nx σ' H'
  rt : ∀ F' S' H' v d, ExF F F' → FS K F' S' H' → Rep K F' d v → De.rt d S' → D.rt v H'
  bk : ∀ F' ρ' S' σ' H', ExF F F' → Mt K L F' ρ' S' σ' H' → De.bk ρ' S' → D.bk σ' H'
  ct : ∀ F' ρ' S' σ' H', ExF F F' → Mt K L F' ρ' S' σ' H' → De.ct ρ' S' → D.ct σ' H'
theorem LE.up {K : PySem.W.Frag} {L : Lk} {F F1 : Hp} {De : DEnds} {D : Ends} (l : LE K L F De D) (e : ExF F F1) : LE K L F1 De D :=
  ⟨fun F' ρ' S' σ' H' e' => l.nx F' ρ' S' σ' H' (e.trans e'), fun F' S' H' v d e' => l.rt F' S' H' v d (e.trans e'), fun F' ρ' S' σ' H' e' => l.bk F' ρ' S' σ' H' (e.trans e'), fun F' ρ' S' σ' H' e' => l.ct F' ρ' S' σ' H' (e.trans e')⟩
def RS (K : PySem.W.Frag) (L : Lk) (t : TS) (w : WS) : Prop := ∀ F ρ S σ H De D, Mt K L F ρ S σ H → w De ρ S → LE K L F De D → t D σ H
structure DS (X : Cx) (L : Lk) (st : Stmt) (t : TS) (w : WS) : Prop where
  ps : PS X st t
  rs : RS X.K L t w
structure DB (X : Cx) (L : Lk) (st : List Stmt) (t : TS) (w : WS) : Prop where
  ps : PSs X st t
  rs : RS X.K L t w
section
variable {X : Cx} {L : Lk} {st : Stmt} {rest : List Stmt} {t u : TS} {w wu : WS} {e : Expr} {te : TE} {we : WE} {pos : Pos} {K : PySem.W.Frag}
def wSeq (w u : WS) : WS := fun De ρ S => w { De with nx := u De } ρ S
def wNext : WS := fun De ρ S => De.nx ρ S
theorem rs_seq (h : RS K L t w) (g : RS K L u wu) : RS K L (tSeq t u) (wSeq w wu) := fun F ρ S σ H De D m q l =>
  h F ρ S σ H _ _ m q ⟨fun F' ρ' S' σ' H' e' m' q' => g F' ρ' S' σ' H' De D m' q' (l.up e'), l.rt, l.bk, l.ct⟩
theorem rs_next : RS K L tNext wNext := fun F ρ S σ H De D m q l => l.nx F ρ S σ H (ExF.refl F) m q
theorem db_nil : DB X L [] tNext wNext := ⟨pss_nil, rs_next⟩
theorem db_one (h : DS X L st t w) : DB X L [st] t w := ⟨pss_one h.ps, h.rs⟩
theorem db_cons (h : DS X L st t w) (g : DB X L rest u wu) : DB X L (st :: rest) (tSeq t u) (wSeq w wu) := ⟨pss_cons h.ps g.ps, rs_seq h.rs g.rs⟩
theorem ds_pass : DS X L (.Pass pos) tNext wNext := ⟨ps_pass, rs_next⟩
def wBreak : WS := fun De ρ S => De.bk ρ S
def wCont : WS := fun De ρ S => De.ct ρ S
theorem ds_break : DS X L (.Break pos) tBreak wBreak := ⟨ps_break, fun F ρ S σ H De D m q l => l.bk F ρ S σ H (ExF.refl F) m q⟩
theorem ds_continue : DS X L (.Continue pos) tCont wCont := ⟨ps_continue, fun F ρ S σ H De D m q l => l.ct F ρ S σ H (ExF.refl F) m q⟩
def wDrop (we : WE) : WS := fun De ρ S => we ρ S fun _ ρ1 S1 => De.nx ρ1 S1
theorem rs_drop (h : RE K L te we) : RS K L (tDrop te) (wDrop we) := fun F ρ S σ H De D m q l =>
  h F ρ S σ H _ _ m q fun v H1 d ρ1 S1 F1 e1 m1 r1 q1 => l.nx F1 ρ1 S1 σ H1 e1 m1 q1
theorem ds_expr (h : DE X L e te we) (hs : swapsWith e none pos.line X.env = pure false := by rfl) : DS X L (.Expr e pos) (tDrop te) (wDrop we) := ⟨ps_expr h.pe hs, rs_drop h.re⟩
def wRet (we : WE) : WS := fun De ρ S => we ρ S fun d _ S1 => De.rt d S1
theorem rs_ret (h : RE K L te we) : RS K L (tRet te) (wRet we) := fun F ρ S σ H De D m q l =>
  h F ρ S σ H _ _ m q fun v H1 d ρ1 S1 F1 e1 m1 r1 q1 => l.rt F1 S1 H1 v d e1 m1.fs r1 q1
theorem ds_ret (h : DE X L e te we) : DS X L (.Return (some e) pos) (tRet te) (wRet we) := ⟨ps_ret h.pe, rs_ret h.re⟩
def wRetN : WS := fun De _ S => De.rt .non S
theorem ds_retN : DS X L (.Return none pos) tRetN wRetN := ⟨ps_retN, fun F ρ S σ H De D m q l => l.rt F S H .non .non (ExF.refl F) m.fs .non q⟩
def wIfS (c : WT) (w u : WS) : WS := fun De ρ S => c ρ S fun b ρ1 S1 => if b = true then w De ρ1 S1 else u De ρ1 S1
theorem rs_if {tc : TT} {wc : WT} (hc : RT K L tc wc) (h : RS K L t w) (g : RS K L u wu) : RS K L (tIfS tc t u) (wIfS wc w wu) := fun F ρ S σ H De D m q l =>
  hc F ρ S σ H _ _ m q fun b H1 ρ1 S1 F1 e1 m1 q1 => by
    cases b with
    | true =>
      rw [if_pos rfl] at q1 ⊢
      exact h F1 ρ1 S1 σ H1 De D m1 q1 (l.up e1)
    | false =>
      rw [if_neg Bool.false_ne_true] at q1 ⊢
      exact g F1 ρ1 S1 σ H1 De D m1 q1 (l.up e1)
theorem ds_if {c : Expr} {a b : List Stmt} {tc : TT} {wc : WT} (hc : DT X L c tc wc) (h : DB X L a t w) (g : DB X L b u wu) : DS X L (.If c a b pos) (tIfS tc t u) (wIfS wc w wu) := ⟨ps_if hc.pt h.ps g.ps, rs_if hc.rt h.rs g.rs⟩
def wNever : WS := fun _ _ _ => False
theorem ds_never : DS X L st tNever wNever := ⟨ps_never, fun _ _ _ _ _ _ _ _ q _ => q.elim⟩
theorem db_never {sts : List Stmt} : DB X L sts tNever wNever := ⟨pss_never, fun _ _ _ _ _ _ _ _ q _ => q.elim⟩
end
/-! ### targets -/
abbrev WG := D → Rho → MS → (Rho → MS → Prop) → Prop
abbrev WGs := List D → Rho → MS → (Rho → MS → Prop) → Prop
def RG (K : PySem.W.Frag) (L : Lk) (vs : List Nat) (g : TG) (wg : WG) : Prop := ∀ F ρ S σ H d v (Q : Rho → MS → Prop) (R : L2.St → Hp → Prop), Mt K L F ρ S σ H → Rep K F d v → wg d ρ S Q →
  (∀ F' ρ' S' σ' H', ExF F F' → Mt K L F' ρ' S' σ' H' → wipe σ' vs = wipe σ vs → Q ρ' S' → R σ' H') → g v σ H R
def RGs (K : PySem.W.Frag) (L : Lk) (vs : List Nat) (g : TGs) (wg : WGs) : Prop := ∀ F ρ S σ H ds us (Q : Rho → MS → Prop) (R : L2.St → Hp → Prop), Mt K L F ρ S σ H → Reps K F ds us → wg ds ρ S Q →
  (∀ F' ρ' S' σ' H', ExF F F' → Mt K L F' ρ' S' σ' H' → wipe σ' vs = wipe σ vs → Q ρ' S' → R σ' H') → g us σ H R
structure DG (X : Cx) (L : Lk) (vs : List Nat) (tg : Expr) (g : TG) (wg : WG) : Prop where
  pg : PG X tg g
  rg : RG X.K L vs g wg
structure DGs (X : Cx) (L : Lk) (vs : List Nat) (tg : List Expr) (g : TGs) (wg : WGs) : Prop where
  pg : PGs X tg g
  rg : RGs X.K L vs g wg
theorem wipe_get {σ : L2.St} {j : Nat} : ∀ {vs : List Nat}, (wipe σ vs)[j]? = if j ∈ vs ∧ j < σ.length then some none else σ[j]?
  | [] => by simp [wipe]
  | v :: vs => by
    unfold wipe
    rw [List.getElem?_set]
    rw [wipe_length, wipe_get (vs := vs)]
    by_cases h : v = j
    · subst h
      by_cases hl : v < σ.length
      · simp [hl]
      · simp [hl, List.getElem?_eq_none (Nat.le_of_not_lt hl)]
    · simp [h, Ne.symm h]
theorem wipe_eq {σ σ' : L2.St} {vs : List Nat} (hl : σ'.length = σ.length) (h : ∀ j, j ∉ vs → σ'[j]? = σ[j]?) : wipe σ' vs = wipe σ vs := by
  apply List.ext_getElem?
  intro j
  rw [wipe_get, wipe_get, hl]
  by_cases hj : j ∈ vs ∧ j < σ.length
  · rw [if_pos hj, if_pos hj]
  · rw [if_neg hj, if_neg hj]
    by_cases hv : j ∈ vs
    · have : ¬ j < σ.length := fun z => hj ⟨hv, z⟩
      rw [List.getElem?_eq_none (by omega), List.getElem?_eq_none (by omega)]
    · exact h j hv
theorem wipe_set {σ : L2.St} {i : Nat} {v : V} {vs : List Nat} (h : i ∈ vs) : wipe (σ.set i (some v)) vs = wipe σ vs :=
  wipe_eq (by simp) fun j hj => List.getElem?_set_ne (fun z => by subst z; exact hj h)
section
variable {X : Cx} {L : Lk} {pos : Pos} {K : PySem.W.Frag} {vs : List Nat}
def wgName (i : Nat) : WG := fun d ρ S Q => Q (ρ.set i (some d)) S
theorem rg_name {i : Nat} (h : i ∈ vs) : RG K L vs (gName i) (wgName i) := fun F ρ S σ H d v Q R m r q k =>
  k F _ S _ H (ExF.refl F) (m.store r) (wipe_set h) q
theorem dg_name (i : Nat) {x : Str} (h : i ∈ vs) (hN : X.N.Nodup) (hi : X.N[i]? = some x := by rfl) (hx : Loc X.env.scope x := by first | exact Or.inl rfl | exact Or.inr rfl) (hf : X.fn x = true ∨ X.env.scope.names.lookup x = some .local := by first | exact .inl rfl | exact .inr rfl | assumption) :
    DG X L vs (.Name x pos) (gName i) (wgName i) := ⟨pg_name hN hi hx hf, rg_name h⟩
def wgNil : WGs := fun ds ρ S Q => ds = [] ∧ Q ρ S
def wgCons (w : WG) (u : WGs) : WGs := fun ds ρ S Q => match ds with
  | d :: r => w d ρ S fun ρ1 S1 => u r ρ1 S1 Q
  | [] => False
theorem dgs_nil : DGs X L vs [] gNil wgNil := ⟨pgs_nil, fun F ρ S σ H ds us Q R m r ⟨e, q⟩ k => by
  subst e
  cases r
  exact ⟨rfl, k F ρ S σ H (ExF.refl F) m rfl q⟩⟩
theorem dgs_cons {e : Expr} {es : List Expr} {g : TG} {u : TGs} {w : WG} {wu : WGs} (h : DG X L vs e g w) (k : DGs X L vs es u wu)
    (hs : (assignEach (e :: es) X.env).map (·.2) = assign e X.env :: (assignEach es X.env).map (·.2) := by rfl) : DGs X L vs (e :: es) (gCons g u) (wgCons w wu) := by
  refine ⟨pgs_cons h.pg k.pg hs, fun F ρ S σ H ds us Q R m r q kk => ?_⟩
  cases r with
  | nil => exact q.elim
  | cons r1 r2 =>
    refine ⟨_, _, rfl, h.rg F ρ S σ H _ _ _ _ m r1 q fun F1 ρ1 S1 σ1 H1 e1 m1 w1 q1 => ?_⟩
    exact k.rg F1 ρ1 S1 σ1 H1 _ _ _ _ m1 (r2.up e1) q1 fun F2 ρ2 S2 σ2 H2 e2 m2 w2 q2 => kk F2 ρ2 S2 σ2 H2 (e1.trans e2) m2 (w2.trans w1) q2
def wgTup (w : WGs) : WG := fun d ρ S Q => ∃ ds, d = .tup ds ∧ w ds ρ S Q
def lenOk (n : Nat) (w : WGs) : WGs := fun ds ρ S Q => ds.length = n ∧ w ds ρ S Q
theorem dg_tup {es : List Expr} {k : Nat} {g : TGs} {w : WGs} {n : Nat} (hc : X.calm = true) (h : DGs X L vs es g w)
    (hn : (assignEach es X.env).length = n := by rfl) (hst : (assignEach es X.env).findIdx? (·.1) = none := by rfl) : DG X L vs (.Tuple es k pos) (gTup X.K n g) (wgTup (lenOk n w)) := by
  refine ⟨pg_tup hc h.pg hn hst, fun F ρ S σ H d v Q R m r ⟨ds, e, hl, q⟩ kk => ?_⟩
  subst e
  cases r with
  | tup h1 h2 => exact ⟨_, _, rfl, exf_t m.fs.fr h1, by rw [← h2.length]; exact hl, h.rg F ρ S σ H _ _ _ _ m h2 q kk⟩
end
/-! ### assignments -/
section
variable {X : Cx} {L : Lk} {e : Expr} {te : TE} {we : WE} {pos : Pos} {K : PySem.W.Frag}
def wAsg (we : WE) (wg : WG) : WS := fun De ρ S => we ρ S fun d ρ1 S1 => wg d ρ1 S1 De.nx
theorem rs_asg {g : TG} {wg : WG} {vs : List Nat} (h : RE K L te we) (hg : RG K L vs g wg) : RS K L (tAsg te g) (wAsg we wg) := fun F ρ S σ H De D m q l =>
  h F ρ S σ H _ _ m q fun v H1 d ρ1 S1 F1 e1 m1 r1 q1 => hg F1 ρ1 S1 σ H1 d v _ _ m1 r1 q1 fun F2 ρ2 S2 σ2 H2 e2 m2 _ q2 => l.nx F2 ρ2 S2 σ2 H2 (e1.trans e2) m2 q2
theorem ds_set (i : Nat) {x : Str} {pos' : Pos} (hN : X.N.Nodup) (h : DE X L e te we) (hi : X.N[i]? = some x := by rfl) (hx : Loc X.env.scope x := by first | exact Or.inl rfl | exact Or.inr rfl) (hs : swapsWith e (some (.Name x pos')) pos.line X.env = pure false := by rfl)
    (hf : X.fn x = true ∨ X.env.scope.names.lookup x = some .local := by first | exact .inl rfl | exact .inr rfl | assumption) : DS X L (.Assign [.Name x pos'] e pos) (tAsg te (gName i)) (wAsg we (wgName i)) :=
  ⟨ps_set hN hi hx h.pe hs hf, rs_asg (vs := [i]) h.re (rg_name (List.mem_singleton.mpr rfl))⟩
theorem ds_asg {tg : Expr} {g : TG} {wg : WG} {vs : List Nat} (h : DE X L e te we) (hg : DG X L vs tg g wg) (hs : swapsWithSole [tg] e pos.line X.env = pure false := by rfl) (hw : swappedStores [tg] e X.env = pure none := by rfl)
    (h1 : (assignEach [tg] X.env).map (·.2) = [assign tg X.env] := by rfl) : DS X L (.Assign [tg] e pos) (tAsg te g) (wAsg we wg) := ⟨ps_asg h.pe hg.pg hs hw h1, rs_asg h.re hg.rg⟩
/-- two names, two values: no tuple is made -/
def wPar (i j : Nat) (wa : WA) : WS := fun De ρ S => wa ρ S fun ds ρ1 S1 => ∃ x y, ds = [x, y] ∧ De.nx ((ρ1.set i (some x)).set j (some y)) S1
theorem ds_par (i j : Nat) {x y : Str} {a b : Expr} {ta : TA} {wa : WA} {px py pt : Pos} {kt k2 : Nat} {pt2 : Pos} (hc : X.calm = true) (hN : X.N.Nodup) (hij : i ≠ j) (ha : DA X L [a, b] ta wa) (hi : X.N[i]? = some x := by rfl) (hj : X.N[j]? = some y := by rfl)
    (hx : X.env.scope.names.lookup x = some .local := by rfl) (hy : X.env.scope.names.lookup y = some .local := by rfl)
    (hw : swappedStores [.Tuple [.Name x px, .Name y py] kt pt] (.Tuple [a, b] k2 pt2) X.env = pure (some [x, y]) := by rfl)
    (hs : swapsWithSole [.Tuple [.Name x px, .Name y py] kt pt] (.Tuple [a, b] k2 pt2) pos.line X.env = pure false := by rfl) :
    DS X L (.Assign [.Tuple [.Name x px, .Name y py] kt pt] (.Tuple [a, b] k2 pt2) pos) (tPar i j ta) (wPar i j wa) := by
  refine ⟨ps_par hc hN hi hj hij hx hy ha.pa hw hs, fun F ρ S σ H De D m q l => ?_⟩
  refine ha.ra F ρ S σ H _ _ m q fun vs H1 ds ρ1 S1 F1 e1 m1 r1 ⟨u, v, e, q1⟩ => ?_
  subst e
  cases r1 with
  | cons r1 r2 =>
    cases r2 with
    | cons r2 r3 =>
      cases r3
      exact ⟨_, _, rfl, l.nx F1 _ S1 _ H1 e1 ((m1.store r1).store r2) q1⟩
/-- name op= e -/
def RIp (K : PySem.W.Frag) (t : TIp) (wo : D → D → MS → KV2 → Prop) : Prop := RO2 K t wo
def wAug (i : Nat) (wo : D → D → MS → KV2 → Prop) (we : WE) : WS := fun De ρ S => ∃ x, ρ[i]? = some (some x) ∧ we ρ S fun y ρ1 S1 => wo (rd S1 x) (rd S1 y) S1 fun d S2 => De.nx (ρ1.set i (some d)) S2
theorem ds_aug (i : Nat) {x : Str} {op : Operator} {ti : TIp} {wo : D → D → MS → KV2 → Prop} {pos' : Pos} (hN : X.N.Nodup) (ho : PIp X op ti) (hr : RO2 X.K ti wo) (h : DE X L e te we) (hi : X.N[i]? = some x := by rfl) (hx : Loc X.env.scope x := by first | exact Or.inl rfl | exact Or.inr rfl)
    (hf : X.fn x = true ∨ X.env.scope.names.lookup x = some .local := by first | exact .inl rfl | exact .inr rfl | assumption) : DS X L (.AugAssign (.Name x pos') op e pos) (tAug i te ti) (wAug i wo we) := by
  refine ⟨ps_aug hN hi hx h.pe ho hf, fun F ρ S σ H De D m ⟨d, hd, q⟩ l => ?_⟩
  obtain ⟨v, hv, r⟩ := m.sl i d hd
  refine ⟨v, hv, h.re F ρ S σ H _ _ m q fun y H1 dy ρ1 S1 F1 e1 m1 r1 q1 => ?_⟩
  refine hr F1 S1 H1 _ _ v y _ _ m1.fs (rd_ok m1.fs (r.up e1)) (rd_ok m1.fs r1) q1 fun z H2 dz S2 F2 e2 x2 r2 q2 => ?_
  exact l.nx F2 _ S2 _ H2 (e1.trans e2) ((m1.step e2 x2).store r2) q2
end
/-! ### what is walked -/
structure WalkD (K : PySem.W.Frag) (F : Hp) (J : It) (ds : List D) (g : MS → Prop) : Prop where
  goes : ∀ i F' S' H', i < ds.length → ExF F F' → FS K F' S' H' → g S' → J.go i H'
  stops : ∀ F' S' H', ExF F F' → FS K F' S' H' → g S' → J.stop ds.length H'
  yields : ∀ i F' S' H' x H2, i < ds.length → ExF F F' → FS K F' S' H' → g S' → J.yld i H' x H2 → ∃ d F2, ds[i]? = some d ∧ ExF F' F2 ∧ FS K F2 S' H2 ∧ Rep K F2 d x
abbrev WI := Rho → MS → (List D → (MS → Prop) → Rho → MS → Prop) → Prop
def RI (K : PySem.W.Frag) (L : Lk) (t : TI) (w : WI) : Prop := ∀ F ρ S σ H (Q : List D → (MS → Prop) → Rho → MS → Prop) (R : It → Hp → Prop), Mt K L F ρ S σ H → w ρ S Q →
  (∀ J H' ds g ρ' S' F', ExF F F' → Mt K L F' ρ' S' σ H' → WalkD K F' J ds g → Q ds g ρ' S' → R J H') → t σ H R
structure DI (X : Cx) (L : Lk) (tg iter : Expr) (t : TI) (w : WI) : Prop where
  pi : PI X tg iter t
  ri : RI X.K L t w
def noG : MS → Prop := fun _ => True
/-! ### for -/
def forW (g : MS → Prop) (wg : WG) (wb : WS) (De : DEnds) : List D → Rho → MS → Prop
  | [] => fun ρ S => g S ∧ De.nx ρ S
  | d :: r => fun ρ S => g S ∧ wg d ρ S fun ρ1 S1 => wb { De with nx := forW g wg wb De r, ct := forW g wg wb De r, bk := De.nx } ρ1 S1
theorem forW_g {g : MS → Prop} {wg : WG} {wb : WS} {De : DEnds} : ∀ {ds : List D} {ρ : Rho} {S : MS}, forW g wg wb De ds ρ S → g S
  | [], _, _, h => h.1
  | _ :: _, _, _, h => h.1
def wFor (wi : WI) (wg : WG) (wb : WS) : WS := fun De ρ S => wi ρ S fun ds g ρ1 S1 => forW g wg wb De ds ρ1 S1
section
variable {X : Cx} {L : Lk} {pos : Pos} {K : PySem.W.Frag}
theorem walk_of_d {F : Hp} {J : It} {ds : List D} {g : MS → Prop} (w : WalkD K F J ds g) :
    Walk J ds.length (fun H => ∃ F' S', ExF F F' ∧ FS K F' S' H ∧ g S') (fun i H x H2 => ∀ F' S', ExF F F' → FS K F' S' H → g S' → ∃ d F2, ds[i]? = some d ∧ ExF F' F2 ∧ FS K F2 S' H2 ∧ Rep K F2 d x) :=
  ⟨fun i H hi ⟨F', S', e, x, h⟩ => w.goes i F' S' H hi e x h, fun H ⟨F', S', e, x, h⟩ => w.stops F' S' H e x h, fun i H x H2 hi _ y F' S' e z h => w.yields i F' S' H x H2 hi e z h y⟩
theorem rs_for {ti : TI} {wi : WI} {g : TG} {wg : WG} {tb : TS} {wb : WS} {vs : List Nat} (hi : RI K L ti wi) (hg : RG K L vs g wg) (hb : RS K L tb wb) : RS K L (tFor ti g tb) (wFor wi wg wb) := by
  intro F ρ S σ H De D m q l
  refine hi F ρ S σ H _ _ m q fun J H1 ds gd ρ1 S1 F1 e1 m1 wk q1 => ?_
  refine for_it (walk_of_d wk) (fun i σ H => ∃ F' ρ' S', ExF F1 F' ∧ Mt K L F' ρ' S' σ H ∧ forW gd wg wb De (ds.drop i) ρ' S') ⟨F1, ρ1, S1, ExF.refl F1, m1, q1⟩ (fun i σ H _ ⟨F', ρ', S', e, m', q'⟩ => ⟨F', S', e, m'.fs, forW_g q'⟩) ?_ ?_
  · rintro i x σ2 H2 H3 hlt ⟨F', ρ', S', e, m', q'⟩ y
    obtain ⟨d, F3, hd, e3, x3, r3⟩ := y F' S' e m'.fs (forW_g q')
    have hdrop : ds.drop i = d :: ds.drop (i + 1) := by
      obtain ⟨h1, h2⟩ := List.getElem?_eq_some_iff.mp hd
      rw [← h2]
      exact List.drop_eq_getElem_cons h1
    rw [hdrop] at q'
    have m3 := m'.step e3 x3
    refine hg F3 ρ' S' σ2 H3 d x _ _ m3 r3 q'.2 fun F4 ρ4 S4 σ4 H4 e4 m4 _ q4 => ?_
    have ex4 : ExF F1 F4 := (e.trans e3).trans e4
    refine hb F4 ρ4 S4 σ4 H4 _ _ m4 q4 ⟨fun F5 ρ5 S5 σ5 H5 e5 m5 q5 => ⟨F5, ρ5, S5, ex4.trans e5, m5, q5⟩, fun F5 S5 H5 v d e5 => l.rt F5 S5 H5 v d ((e1.trans ex4).trans e5), fun F5 ρ5 S5 σ5 H5 e5 => l.nx F5 ρ5 S5 σ5 H5 ((e1.trans ex4).trans e5), fun F5 ρ5 S5 σ5 H5 e5 m5 q5 => ⟨F5, ρ5, S5, ex4.trans e5, m5, q5⟩⟩
  · rintro σ2 H2 ⟨F', ρ', S', e, m', q'⟩
    rw [List.drop_length] at q'
    exact l.nx F' ρ' S' σ2 H2 (e1.trans e) m' q'.2
theorem ds_for {tg iter : Expr} {body : List Stmt} {ti : TI} {wi : WI} {g : TG} {wg : WG} {tb : TS} {wb : WS} {vs : List Nat} (hp : PassesOwn (model X.prog X.w) X.A X.env X.xe) (hc : X.calm = true) (hi : DI X L tg iter ti wi) (hg : DG X L vs tg g wg) (hb : DB X L body tb wb)
    (hs : ∀ x, foldedSetIterable iter X.env x = pure x := by intro _; rfl) : DS X L (.For tg iter body [] pos) (tFor ti g tb) (wFor wi wg wb) := ⟨ps_for hp hc hi.pi hg.pg hb.ps hs, rs_for hi.ri hg.rg hb.rs⟩
/-- while: the invariant by a measure -/
def wWhile (c : WT) (wb : WS) : WS := fun De ρ S => ∃ W : Nat → Rho → MS → Prop, (∃ n, W n ρ S) ∧ ∀ n ρ S, W n ρ S →
  c ρ S fun b ρ1 S1 => if b = true then wb { De with nx := fun ρ' S' => ∃ n', n' < n ∧ W n' ρ' S', ct := fun ρ' S' => ∃ n', n' < n ∧ W n' ρ' S', bk := De.nx } ρ1 S1 else De.nx ρ1 S1
theorem rs_while {tc : TT} {wc : WT} {tb : TS} {wb : WS} (hc : RT K L tc wc) (hb : RS K L tb wb) : RS K L (tWhile tc tb) (wWhile wc wb) := by
  rintro F ρ S σ H De D m ⟨W, ⟨n0, w0⟩, q⟩ l
  refine ⟨fun n σ' H' => ∃ F' ρ' S', ExF F F' ∧ Mt K L F' ρ' S' σ' H' ∧ W n ρ' S', ⟨n0, F, ρ, S, ExF.refl F, m, w0⟩, ?_⟩
  rintro n σ' H' ⟨F', ρ', S', e, m', w'⟩
  refine hc F' ρ' S' σ' H' _ _ m' (q n ρ' S' w') fun b H1 ρ1 S1 F1 e1 m1 q1 => ?_
  have ex1 := e.trans e1
  cases b with
  | true =>
    rw [if_pos rfl] at q1 ⊢
    refine ⟨fun σ2 H2 => ∃ F2 ρ2 S2, ExF F F2 ∧ Mt K L F2 ρ2 S2 σ2 H2 ∧ ∃ n', n' < n ∧ W n' ρ2 S2, fun σ2 H2 ⟨F2, ρ2, S2, e2, m2, n', hn, w2⟩ => ⟨n', hn, F2, ρ2, S2, e2, m2, w2⟩, ?_⟩
    exact hb F1 ρ1 S1 σ' H1 _ _ m1 q1 ⟨fun F5 ρ5 S5 σ5 H5 e5 m5 q5 => ⟨F5, ρ5, S5, ex1.trans e5, m5, q5⟩, fun F5 S5 H5 v d e5 => l.rt F5 S5 H5 v d (ex1.trans e5), fun F5 ρ5 S5 σ5 H5 e5 => l.nx F5 ρ5 S5 σ5 H5 (ex1.trans e5), fun F5 ρ5 S5 σ5 H5 e5 m5 q5 => ⟨F5, ρ5, S5, ex1.trans e5, m5, q5⟩⟩
  | false =>
    rw [if_neg Bool.false_ne_true] at q1 ⊢
    exact l.nx F1 ρ1 S1 σ' H1 ex1 m1 q1
theorem ds_while {c : Expr} {body : List Stmt} {tc : TT} {wc : WT} {tb : TS} {wb : WS} (hp : PassesOwn (model X.prog X.w) X.A X.env X.xe) (hc : DT X L c tc wc) (hb : DB X L body tb wb) : DS X L (.While c body [] pos) (tWhile tc tb) (wWhile wc wb) :=
  ⟨ps_while hp hc.pt hb.ps, rs_while hc.rt hb.rs⟩
end
/-! ### comprehensions -/
/-- the list that is made stands at a -/
def compW (a : Addr) (g : MS → Prop) (wg : WG) (wt : WT) (we : WE) (Q : MS → Prop) (ρ0 : Rho) : List D → MS → Prop
  | [] => fun S => g S ∧ Q S
  | d :: r => fun S => g S ∧ wg d ρ0 S fun ρ1 S1 => wt ρ1 S1 fun b ρ2 S2 => if b = true then we ρ2 S2 fun x _ S3 => ∃ acc, S3 a = some (.lst acc) ∧ acc.length < sizeLine ∧ compW a g wg wt we Q ρ0 r (S3.set a (.lst (acc ++ [x]))) else compW a g wg wt we Q ρ0 r S2
theorem compW_g {a : Addr} {g : MS → Prop} {wg : WG} {wt : WT} {we : WE} {Q : MS → Prop} {ρ0 : Rho} : ∀ {ds : List D} {S : MS}, compW a g wg wt we Q ρ0 ds S → g S
  | [], _, h => h.1
  | _ :: _, _, h => h.1
def wipeR (ρ : Rho) : List Nat → Rho
  | [] => ρ
  | v :: vs => (wipeR ρ vs).set v none
def endL (m : Bool) (a : Addr) (S : MS) (Q : KV2) : Prop := ∃ acc, S a = some (.lst acc) ∧ if m = true then Q (.ref a) S else Q (.lst acc) (S.del a)
def wLc (m : Bool) (vs : List Nat) (wi : WI) (wg : WG) (wt : WT) (we : WE) : WE := fun ρ S Q => wi ρ S fun ds g ρ1 S1 => ∀ a, S1 a = none → compW a g wg wt we (fun S2 => endL m a S2 fun d S3 => Q d ρ1 S3) (wipeR ρ1 vs) ds (S1.set a (.lst []))
structure DTs (X : Cx) (L : Lk) (ifs : List Expr) (t : TT) (w : WT) : Prop where
  pts : PTs X ifs t
  rt : RT X.K L t w
def wYes : WT := fun ρ S Q => Q true ρ S
section
variable {X : Cx} {L : Lk} {pos : Pos} {K : PySem.W.Frag}
theorem rt_yes : RT K L tYes wYes := fun F ρ S σ H Q R m q k => k true H ρ S F (ExF.refl F) m q
theorem dts_nil : DTs X L [] tYes wYes := ⟨pts_nil, rt_yes⟩
theorem dts_one {c : Expr} {t : TT} {w : WT} (h : DT X L c t w) : DTs X L [c] t w := ⟨pts_one h.pt, h.rt⟩
theorem wipeR_length (ρ : Rho) : ∀ vs, (wipeR ρ vs).length = ρ.length
  | [] => rfl
  | v :: vs => by rw [show wipeR ρ (v :: vs) = (wipeR ρ vs).set v none from rfl, List.length_set, wipeR_length ρ vs]
theorem wipeR_some {ρ : Rho} {j : Nat} {d : D} : ∀ {vs : List Nat}, (wipeR ρ vs)[j]? = some (some d) → ρ[j]? = some (some d) ∧ j ∉ vs
  | [], h => ⟨h, by simp⟩
  | v :: vs, h => by
    rw [show wipeR ρ (v :: vs) = (wipeR ρ vs).set v none from rfl] at h
    by_cases hv : v = j
    · subst hv
      by_cases hl : v < (wipeR ρ vs).length
      · rw [List.getElem?_set_self hl] at h
        cases h
      · rw [List.getElem?_eq_none (by simpa using hl)] at h
        cases h
    · rw [List.getElem?_set_ne hv] at h
      obtain ⟨h1, h2⟩ := wipeR_some h
      exact ⟨h1, by simp only [List.mem_cons, not_or]; exact ⟨fun z => hv z.symm, h2⟩⟩
theorem Mt.wipe {F : Hp} {ρ : Rho} {S : MS} {σ : L2.St} {H : Hp} (m : Mt K L F ρ S σ H) (vs : List Nat) : Mt K L F (wipeR ρ vs) S (wipe σ vs) H := by
  refine ⟨m.fs, fun j d h => ?_, by rw [wipeR_length, wipe_length]; exact m.len, m.lk⟩
  obtain ⟨h1, h2⟩ := wipeR_some h
  obtain ⟨v, h3, r⟩ := m.sl j d h1
  exact ⟨v, by rw [wipe_get, if_neg (fun z => h2 z.1)]; exact h3, r⟩
/-- back from the block: the slots are as they were -/
theorem Mt.back {F F' : Hp} {ρ ρ' : Rho} {S S' : MS} {σ σ' : L2.St} {H H' : Hp} (m : Mt K L F ρ S σ H) (e : ExF F F') (x : FS K F' S' H') : Mt K L F' ρ S' σ H' := m.step e x
theorem re_lc {mu : Bool} {vs : List Nat} {ti : TI} {wi : WI} {g : TG} {wg : WG} {tt : TT} {wt : WT} {te : TE} {we : WE} (hi : RI K L ti wi) (hg : RG K L vs g wg) (ht : RT K L tt wt) (he : RE K L te we) : RE K L (tLc ti g tt te vs) (wLc mu vs wi wg wt we) := by
  intro F ρ S σ H Q R m q k
  refine hi F ρ S σ H _ _ m q fun J H1 ds gd ρ1 S1 F1 e1 m1 wk q1 => ?_
  intro p hp
  obtain ⟨sp, fp⟩ := m1.fs.notS hp
  have x0 : FS K F1 (S1.set p (.lst [])) (upd H1 p (.lst [])) := m1.fs.alloc (m := .lst []) hp rfl ⟨[], upd_same, .nil⟩
  refine lc_it (walk_of_d wk) (fun i H => ∃ F' S', ExF F1 F' ∧ FS K F' S' H ∧ compW p gd wg wt we (fun S2 => endL mu p S2 fun d S3 => Q d ρ1 S3) (wipeR ρ1 vs) (ds.drop i) S') ⟨F1, _, ExF.refl F1, x0, q1 p sp⟩ (fun i H _ ⟨F', S', e, x', q'⟩ => ⟨F', S', e, x', compW_g q'⟩) ?_ ?_
  · rintro i x H2 H3 hlt ⟨F', S', e, x', q'⟩ y
    obtain ⟨d, F3, hd, e3, x3, r3⟩ := y F' S' e x' (compW_g q')
    have hdrop : ds.drop i = d :: ds.drop (i + 1) := by
      obtain ⟨h1, h2⟩ := List.getElem?_eq_some_iff.mp hd
      rw [← h2]
      exact List.drop_eq_getElem_cons h1
    rw [hdrop] at q'
    have m3 : Mt K L F3 (wipeR ρ1 vs) S' (L2.wipe σ vs) H3 := (m1.wipe vs).step (e.trans e3) x3
    have fin : ∀ {F5 : Hp} {S5 : MS} {H5 : Hp}, ExF F3 F5 → FS K F5 S5 H5 → compW p gd wg wt we (fun S2 => endL mu p S2 fun d S3 => Q d ρ1 S3) (wipeR ρ1 vs) (ds.drop (i + 1)) S5 →
        ∃ F' S', ExF F1 F' ∧ FS K F' S' H5 ∧ compW p gd wg wt we (fun S2 => endL mu p S2 fun d S3 => Q d ρ1 S3) (wipeR ρ1 vs) (ds.drop (i + 1)) S' := fun e5 x5 q5 => ⟨_, _, (e.trans e3).trans e5, x5, q5⟩
    refine hg F3 _ S' _ H3 d x _ _ m3 r3 q'.2 fun F4 ρ4 S4 σ4 H4 e4 m4 w4 q4 => ⟨by
      rw [w4]
      exact wipe_eq (wipe_length σ vs) fun j hj => by rw [wipe_get, if_neg (fun z => hj z.1)], ?_⟩
    refine ht F4 ρ4 S4 σ4 H4 _ _ m4 q4 fun b H5 ρ5 S5 F5 e5 m5 q5 => ?_
    cases b with
    | false =>
      rw [if_neg Bool.false_ne_true] at q5 ⊢
      exact fin (e4.trans e5) m5.fs q5
    | true =>
      rw [if_pos rfl] at q5 ⊢
      refine he F5 ρ5 S5 σ4 H5 _ _ m5 q5 fun v H6 dv ρ6 S6 F6 e6 m6 r6 ⟨acc, ha, hz, q6⟩ => ?_
      obtain ⟨_, us, hu, ru⟩ := m6.fs.st p _ ha
      refine ⟨us, hu, by rw [← ru.length]; exact hz, fin ((e4.trans e5).trans e6) (m6.fs.write (n := .lst (acc ++ [dv])) ha rfl ⟨us ++ [v], upd_same, ru.append (.cons r6 .nil)⟩) q6⟩
  · rintro H2 ⟨F', S', e, x', q'⟩
    rw [List.drop_length] at q'
    obtain ⟨acc, ha, q2⟩ := q'.2
    cases mu with
    | true =>
      rw [if_pos rfl] at q2
      exact k _ H2 _ ρ1 S' F' (e1.trans e) (m1.step e x') (.ref p) q2
    | false =>
      rw [if_neg Bool.false_ne_true] at q2
      obtain ⟨us, hu, ru, xf⟩ := x'.freeze ha
      have fp' := (x'.st p _ ha).1
      have e2 : ExF F' (upd F' p (.lst us)) := ExF.new fp'
      exact k _ H2 _ ρ1 _ _ ((e1.trans e).trans e2) (m1.step (e.trans e2) xf) (.lst (.inl upd_same) (ru.up e2)) q2
theorem de_lc (mu : Bool) {elt tg iter : Expr} {ifs : List Expr} {scope : Scope} {ti : TI} {wi : WI} {g : TG} {wg : WG} {tt : TT} {wt : WT} {te : TE} {we : WE} (own : List (Str × Nat)) (hc : X.calm = true) (hN : X.N.Nodup) (hi : DI X L tg iter ti wi) (ok : BlkOk X.N X.env.scope scope own)
    (hg : ∀ (s : Shared) (H : Hp) (C : Addr) (cl : List (Str × Addr)) (fp : List Addr), DG (X.blk s H scope (compEnvC scope cl C X.env) fp) L (own.map (·.2)) tg g wg) (ht : ∀ (s : Shared) (H : Hp) (C : Addr) (cl : List (Str × Addr)) (fp : List Addr), DTs (X.blk s H scope (compEnvC scope cl C X.env) fp) L ifs tt wt)
    (he : ∀ (s : Shared) (H : Hp) (C : Addr) (cl : List (Str × Addr)) (fp : List Addr), DE (X.blk s H scope (compEnvC scope cl C X.env) fp) L elt te we) (hs : ∀ x, foldedSetIterable iter X.env x = pure x := by intro _; rfl) :
    DE X L (.ListComp elt [⟨tg, iter, ifs, 0⟩] scope pos) (tLc ti g tt te (own.map (·.2))) (wLc mu (own.map (·.2)) wi wg wt we) :=
  ⟨pe_lc hc hN hi.pi ok (fun s H C cl fp => (hg s H C cl fp).pg) (fun s H C cl fp => (ht s H C cl fp).pts) (fun s H C cl fp => (he s H C cl fp).pe) hs,
    re_lc hi.ri (hg X.s_0 X.H_0 0 [] []).rg (ht X.s_0 X.H_0 0 [] []).rt (he X.s_0 X.H_0 0 [] []).re⟩
end
end DL
/-! DL4: what a def promises over data; calls. -/
namespace DL
open PySem PySem.Spec PyProof.Rows L2
abbrev DSp := List D → MS → KV2 → DXC → Prop
def noX : DXC := fun _ _ _ => False
def spD (K : PySem.W.Frag) (sp : DSp) : Sp := fun vs H Q E => ∃ ds F S Qd Ed, FS K F S H ∧ Reps K F ds vs ∧ sp ds S Qd Ed ∧
  (∀ v H' d F' S', ExF F F' → FS K F' S' H' → Rep K F' d v → Qd d S' → Q v H') ∧
  ∀ e dd H' C xs F' S', ExF F F' → FS K F' S' H' → ExRep K F' H' e dd C xs → Ed C xs S' → E e dd H'
def startR (N : List Str) (ds : List D) : Rho := ds.map some ++ List.replicate (N.length - ds.length) none
theorem start_reps {K : PySem.W.Frag} {F : Hp} {N : List Str} {ds : List D} {vs : List V} (r : Reps K F ds vs) (i : Nat) (d : D) (h : (startR N ds)[i]? = some (some d)) : ∃ v, (L2.start N vs)[i]? = some (some v) ∧ Rep K F d v := by
  unfold startR at h
  unfold L2.start
  by_cases hi : i < ds.length
  · rw [List.getElem?_append_left (by simpa using hi), List.getElem?_map] at h
    cases e : ds[i]? with
    | none => rw [e] at h; cases h
    | some d' =>
      rw [e] at h
      cases h
      obtain ⟨v, hv, rv⟩ := r.get e
      refine ⟨v, ?_, rv⟩
      rw [List.getElem?_append_left (by rw [List.length_map, ← r.length]; exact hi), List.getElem?_map, hv]
      rfl
  · rw [List.getElem?_append_right (by simpa using hi), List.getElem?_replicate] at h
    split at h <;> cases h
/-- behind the end: what is made on the way may be forgotten -/
def outK (Q : KV2) : KV2 := fun d S' => ∃ S1, Sub S1 S' ∧ Q d S1
def endD (Q : KV2) : DEnds := { nx := fun _ S' => outK Q .non S', rt := outK Q }
section
variable {P : Program} {w : World} {K : PySem.W.Frag} {mg : Str → Option Value} {base : Heap}
theorem mt_start {F : Hp} {S : MS} {H : Hp} {N : List Str} {ds : List D} {vs : List V} {L : Lk} (x : FS K F S H) (r : Reps K F ds vs)
    (lk : ∀ (F' : Hp) (S' : MS) (H' : Hp) (e : Value) (d : Option Addr) (C : Addr) (xs : List D), ExF F F' → FS K F' S' H' → ExRep K F' H' e d C xs → L.ex C xs S' → L.E e d H') : Mt K L F (startR N ds) S (L2.start N vs) H :=
  ⟨x, start_reps r, by
    unfold L2.start startR
    simp [r.length], lk⟩
abbrev L0 : Lk := ⟨E0, noX⟩
/-- THE RULE for a def from which nothing is let out -/
theorem fn_d {x qual : Str} {params : Arguments} {body : List Stmt} {scope : Scope} {f : Addr} {fd : FuncData} {N ps : List Str} {k : Nat} {sp : DSp} (Fu : FunD K x qual params body scope [] [] f fd) (S : FnScope N ps scope) (ar : ∀ ds S Q E, sp ds S Q E → ds.length = ps.length)
    (hbody : ∀ (cdv : Value) (A : Around) (outer : List Env) (s : Shared) (H : Hp) (E : XK), Room k (A.deeper (envOfC qual scope s.heap.objs.size f cdv)) →
      ∃ t w', DB (cxOf CX0 P w K mg base N qual scope f cdv A outer s H E).nox L0 body t w' ∧ ∀ ds S Q Ed, sp ds S Q Ed → w' (endD Q) (startR N ds) S) : FnOk P w K mg base CX0 (k + 1) f fd ps (spD K sp) := by
  refine Fu.ok S (fun vs H Q E h => ?_) (fun cdv A outer s H vs Q E hr h => ?_)
  · obtain ⟨ds, F, S', Qd, Ed, _, r, h, _⟩ := h
    rw [← r.length]
    exact ar _ _ _ _ h
  · obtain ⟨ds, F, S', Qd, Ed, x0, r, h, kq, ke⟩ := h
    obtain ⟨t, w', hd, hw⟩ := hbody cdv A outer s H E hr
    refine ⟨t, hd.ps.nox, hd.rs F _ S' _ H _ _ (mt_start x0 r fun _ _ _ _ _ _ _ _ _ _ z => z.elim) (hw ds S' Qd Ed h) ⟨fun F' ρ' S2 σ' H' e m q => ?_, fun F' S2 H' v d e x' rv q => ?_, fun _ _ _ _ _ _ _ z => z.elim, fun _ _ _ _ _ _ _ z => z.elim⟩⟩
    · obtain ⟨S1, s1, q⟩ := q
      exact kq .non H' .non F' S1 e (m.fs.sub s1) .non q
    · obtain ⟨S1, s1, q⟩ := q
      exact kq v H' d F' S1 e (x'.sub s1) rv q
/-- .. that may raise -/
theorem fn_dx {x qual : Str} {params : Arguments} {body : List Stmt} {scope : Scope} {f : Addr} {fd : FuncData} {N ps : List Str} {k : Nat} {sp : DSp} (Fu : FunD K x qual params body scope [] [] f fd) (S : FnScope N ps scope) (ar : ∀ ds S Q E, sp ds S Q E → ds.length = ps.length)
    (hbody : ∀ (cdv : Value) (A : Around) (outer : List Env) (s : Shared) (H : Hp) (E : XK) (Ed : DXC), Room k (A.deeper (envOfC qual scope s.heap.objs.size f cdv)) →
      ∃ t w', DB (cxOf (L2.CX P w) P w K mg base N qual scope f cdv A outer s H E) ⟨E, Ed⟩ body t w' ∧ ∀ ds S Q, sp ds S Q Ed → w' (endD Q) (startR N ds) S) : FnOk P w K mg base (L2.CX P w) (k + 1) f fd ps (spD K sp) := by
  refine Fu.ok S (fun vs H Q E h => ?_) (fun cdv A outer s H vs Q E hr h => ?_)
  · obtain ⟨ds, F, S', Qd, Ed, _, r, h, _⟩ := h
    rw [← r.length]
    exact ar _ _ _ _ h
  · obtain ⟨ds, F, S', Qd, Ed, x0, r, h, kq, ke⟩ := h
    obtain ⟨t, w', hd, hw⟩ := hbody cdv A outer s H E Ed hr
    refine ⟨t, hd.ps, hd.rs F _ S' _ H _ _ (mt_start x0 r fun F' S2 H' e d C xs ex x2 er q => ke e d H' C xs F' S2 ex x2 er q) (hw ds S' Qd h) ⟨fun F' ρ' S2 σ' H' e m q => ?_, fun F' S2 H' v d e x' rv q => ?_, fun _ _ _ _ _ _ _ z => z.elim, fun _ _ _ _ _ _ _ z => z.elim⟩⟩
    · obtain ⟨S1, s1, q⟩ := q
      exact kq .non H' .non F' S1 e (m.fs.sub s1) .non q
    · obtain ⟨S1, s1, q⟩ := q
      exact kq v H' d F' S1 e (x'.sub s1) rv q
end
/-- what a def is to whoever calls it: over every context of this program -/
structure Def (P : Program) (w : World) (K : PySem.W.Frag) (mg : Str → Option Value) (base : Heap) (CX : CXT) (k : Nat) (x : Str) (ps : List Str) (sp : DSp) : Prop where
  ex : ∃ f fd, FnOk P w K mg base CX k f fd ps (spD K sp) ∧ mg x = some (.ref f) ∧ PySem.W.keepIn K (.ref f) = true ∧ Binds K fd ps []
/-! ### calls -/
section
variable {X : Cx} {L : Lk} {CX : CXT} {k : Nat} {f : Addr} {fd : FuncData} {ps : List Str} {sp : DSp} {E : XK} {x : Str} {p pos : Pos} {e : Expr} {es : List Expr} {t : TA} {wa : WA} {K : PySem.W.Frag}
/-- a call that raises nothing -/
def wCall (sp : DSp) (wa : WA) : WE := fun ρ S Q => wa ρ S fun ds ρ1 S1 => sp ds S1 (fun d S2 => Q d ρ1 S2) noX
theorem re_call (h : RA K L t wa) : RE K L (tCall (spD K sp) [] E t) (wCall sp wa) := by
  intro F ρ S σ H Q R m q k
  refine h F ρ S σ H _ _ m q fun vs H1 ds ρ1 S1 F1 e1 m1 r1 q1 => ?_
  show spD K sp (vs ++ []) H1 R E
  rw [List.append_nil]
  exact ⟨ds, F1, S1, _, _, m1.fs, r1, q1, fun v H' d F' S' e x r q => k v H' d ρ1 S' F' (e1.trans e) (m1.step e x) r q, fun _ _ _ _ _ _ _ _ _ _ z => z.elim⟩
/-- a call whose errors leave this def, too -/
def wCallX (L : Lk) (sp : DSp) (wa : WA) : WE := fun ρ S Q => wa ρ S fun ds ρ1 S1 => sp ds S1 (fun d S2 => Q d ρ1 S2) L.ex
theorem re_callX (h : RA K L t wa) : RE K L (tCall (spD K sp) [] L.E t) (wCallX L sp wa) := by
  intro F ρ S σ H Q R m q k
  refine h F ρ S σ H _ _ m q fun vs H1 ds ρ1 S1 F1 e1 m1 r1 q1 => ?_
  show spD K sp (vs ++ []) H1 R L.E
  rw [List.append_nil]
  exact ⟨ds, F1, S1, _, _, m1.fs, r1, q1, fun v H' d F' S' e x r q => k v H' d ρ1 S' F' (e1.trans e) (m1.step e x) r q, fun e dd H' C xs F' S' ex x er q => m1.lk F' S' H' e dd C xs ex x er q⟩
theorem de_call (C : Def X.prog X.w X.K X.mg X.base CX k x ps sp) (hr : Room k X.A) (hx : Passes CX X E0) (hg : Gl X x) (ha : DA X L (e :: es) t wa) (hdb : (x == ("__debug__" : Str)) = false := by decide) (he : starEach (e :: es) X.env = (false, eval e X.env) :: starEach es X.env := by rfl) (hpl : (backTo pos (starEach es X.env)).any (·.1) = false := by rfl) :
    DE X L (.Call (.Name x p) (e :: es) [] pos) (tCall (spD X.K sp) [] E0 t) (wCall sp wa) := by
  obtain ⟨f, fd, F, hm, hk, hb⟩ := C.ex
  exact ⟨pe_call F hr hg hm hk hb .nil hx ha.pa hdb he hpl, re_call ha.ra⟩
theorem de_call0 (C : Def X.prog X.w X.K X.mg X.base CX k x ps sp) (hr : Room k X.A) (hx : Passes CX X E0) (hg : Gl X x) (hdb : (x == ("__debug__" : Str)) = false := by decide) :
    DE X L (.Call (.Name x p) [] [] pos) (tCall (spD X.K sp) [] E0 tNil) (wCall sp wNil) := by
  obtain ⟨f, fd, F, hm, hk, hb⟩ := C.ex
  exact ⟨pe_call0 F hr hg hm hk hb .nil hx hdb, re_call ra_nil⟩
theorem de_callX (C : Def X.prog X.w X.K X.mg X.base CX k x ps sp) (hr : Room k X.A) (hx : Passes CX X L.E) (hg : Gl X x) (ha : DA X L (e :: es) t wa) (hdb : (x == ("__debug__" : Str)) = false := by decide) (he : starEach (e :: es) X.env = (false, eval e X.env) :: starEach es X.env := by rfl) (hpl : (backTo pos (starEach es X.env)).any (·.1) = false := by rfl) :
    DE X L (.Call (.Name x p) (e :: es) [] pos) (tCall (spD X.K sp) [] L.E t) (wCallX L sp wa) := by
  obtain ⟨f, fd, F, hm, hk, hb⟩ := C.ex
  exact ⟨pe_call F hr hg hm hk hb .nil hx ha.pa hdb he hpl, re_callX ha.ra⟩
end
end DL
/-! DL5: operations on data. -/
namespace DL
open PySem PySem.Spec PyProof.Rows L2
/-! ### ints -/
section
variable {K : PySem.W.Frag} {X : Cx}
theorem KO.int {F : Hp} {S : MS} {H : Hp} {Q : KV2} {R : VK} {i : Int} (k : KO K F Q R) (x : FS K F S H) (q : Q (.int i) S) : R (.int i) H := k.here x (.int i) q
theorem KO.bl {F : Hp} {S : MS} {H : Hp} {Q : KV2} {R : VK} {i : Bool} (k : KO K F Q R) (x : FS K F S H) (q : Q (.bl i) S) : R (.bl i) H := k.here x (.bl i) q
/-- two ints, under C, an int -/
def wII (C : Int → Int → Prop) (g : Int → Int → Int) : D → D → MS → KV2 → Prop
  | .int i, .int j => fun S Q => C i j ∧ Q (.int (g i j)) S
  | _, _ => fun _ _ => False
def wIB (g : Int → Int → Bool) : D → D → MS → KV2 → Prop
  | .int i, .int j => fun S Q => Q (.bl (g i j)) S
  | _, _ => fun _ _ => False
theorem repT_int {F H : Hp} {i : Int} {v : V} (h : RepT K F H (.int i) v) : v = .int i := by
  have h : Rep K F (.int i) v := h
  cases h
  rfl
theorem repT_bl {F H : Hp} {i : Bool} {v : V} (h : RepT K F H (.bl i) v) : v = .bl i := by
  have h : Rep K F (.bl i) v := h
  cases h
  rfl
theorem repT_str {F H : Hp} {i : Str} {v : V} (h : RepT K F H (.str i) v) : v = .str i := by
  have h : Rep K F (.str i) v := h
  cases h
  rfl
theorem repT_non {F H : Hp} {v : V} (h : RepT K F H .non v) : v = .non := by
  have h : Rep K F .non v := h
  cases h
  rfl
theorem ro_II {C : Int → Int → Prop} {g : Int → Int → Int} : RO2 K (rI C fun i j => .int (g i j)) (wII C g) := by
  intro F S H x y vx vy Q R fs rx ry q k
  cases x <;> cases y <;> first | exact q.elim | skip
  rw [repT_int rx, repT_int ry]
  exact ⟨_, _, rfl, rfl, q.1, k.int fs q.2⟩
theorem ro_IB {g : Int → Int → Bool} : RO2 K (rI0 fun i j => .bl (g i j)) (wIB g) := by
  intro F S H x y vx vy Q R fs rx ry q k
  cases x <;> cases y <;> first | exact q.elim | skip
  rw [repT_int rx, repT_int ry]
  exact ⟨_, _, rfl, rfl, k.bl fs q⟩
theorem ro_I0 {g : Int → Int → Int} : RO2 K (rI0 fun i j => .int (g i j)) (wII (fun _ _ => True) g) := by
  intro F S H x y vx vy Q R fs rx ry q k
  cases x <;> cases y <;> first | exact q.elim | skip
  rw [repT_int rx, repT_int ry]
  exact ⟨_, _, rfl, rfl, k.int fs q.2⟩
abbrev wSub := wII (fun _ _ => True) fun i j => i - j
abbrev wDiv := wII CDiv fun i j => i / j
abbrev wMod := wII (fun _ j => 0 < j) fun i j => i % j
abbrev wPow := wII CPow fun i j => i ^ j.toNat
abbrev wLt := wIB fun i j => decide (i < j)
abbrev wLe := wIB fun i j => decide (i ≤ j)
abbrev wGt := wIB fun i j => decide (j < i)
abbrev wGe := wIB fun i j => decide (j ≤ i)
def wNeg : D → MS → KV2 → Prop
  | .int i => fun S Q => Q (.int (-i)) S
  | _ => fun _ _ => False
theorem ro_neg : RO1 K (rU fun i => .int (-i)) wNeg := by
  intro F S H x vx Q R fs rx q k
  cases x <;> first | exact q.elim | skip
  rw [repT_int rx]
  exact ⟨_, rfl, k.int fs q⟩
/-! ### + and * -/
/-- a list that is read -/
theorem lstR {pins : List (Addr × Obj)} {σ : L2.St} {H : Hp} {s : Shared} {l : Addr} {xs : List V} (I : Inv X pins σ H s) (h : Rd H l (.lst xs)) : xs.length ≤ sizeLine ∧ ∃ (its : List Value) (n : Nat), Vals xs its ∧ xs.length = its.length ∧ s.heap.get? l = some { cls := .type "list", data := .seq its.toArray n } := by
  obtain ⟨z, its, n, r, e⟩ := (h.ok I.hok : ObjOk X.prog X.w H s.heap l (.lst xs))
  exact ⟨z, its, n, r, r.length, e⟩
/-- list + list -/
def rCatS : R2 := fun x y H Q => ∃ l b xs zs, x = .ref l ∧ y = .ref b ∧ Rd H l (.lst xs) ∧ Rd H b (.lst zs) ∧ xs.length + zs.length ≤ sizeLine ∧ ∀ p, H p = none → Q (.ref p) (upd H p (.lst (xs ++ zs)))
theorem op_catS : OpR X (binaryOp .Add) rCatS := by
  intro pins s σ H x y v u Q I rx ry h
  obtain ⟨l, b, xs, zs, rfl, rfl, hH, hB, hz, q⟩ := h
  cases rx
  cases ry
  obtain ⟨z, its, n, r, hl, e⟩ := lstR I hH
  obtain ⟨z2, its2, n2, r2, hl2, e2⟩ := lstR I hB
  refine PySem.P.add_list e e2 ?_ (by rw [List.size_toArray, List.size_toArray]; omega)
  have ea : its.toArray ++ its2.toArray = (its ++ its2).toArray := by simp
  rw [ea]
  exact ⟨.ref _, _, I.lnew (t' := s.toks) (r.append r2) (by rw [List.length_append]; omega), rfl, q _ I.fresh⟩
def wAdd (m : Bool) : D → D → MS → KV2 → Prop
  | .int i, .int j => fun S Q => Q (.int (i + j)) S
  | .str i, .str j => fun S Q => i.length + j.length ≤ sizeLine ∧ Q (.str (i ++ j)) S
  | .tup xs, .tup ys => fun S Q => xs.length + ys.length ≤ sizeLine ∧ Q (.tup (xs ++ ys)) S
  | .lst xs, .lst ys => fun S Q => xs.length + ys.length ≤ sizeLine ∧ newL m (xs ++ ys) S Q
  | _, _ => fun _ _ => False
abbrev rStrA : R2 := fun x y H Q => ∃ i j, x = .str i ∧ y = .str j ∧ i.length + j.length ≤ sizeLine ∧ Q (.str (i ++ j)) H
def rAddA (K : PySem.W.Frag) : R2 := fun x y H Q => (rI0 fun i j => .int (i + j)) x y H Q ∨ rStrA x y H Q ∨ rCatA K x y H Q ∨ rCatS x y H Q
theorem op_addA : OpR X (binaryOp .Add) (rAddA X.K) := OpR.or op_add (OpR.or op_add_str (OpR.or op_catA op_catS))
theorem ro_add (m : Bool) : RO2 K (rAddA K) (wAdd m) := by
  intro F S H x y vx vy Q R fs rx ry q k
  cases x <;> cases y <;> first | exact q.elim | skip
  · rw [repT_int rx, repT_int ry]
    exact .inl ⟨_, _, rfl, rfl, k.int fs q⟩
  · rw [repT_str rx, repT_str ry]
    exact .inr (.inl ⟨_, _, rfl, rfl, q.1, k.here fs (.str _) q.2⟩)
  · rename_i xs ys
    obtain ⟨a, vs, rfl, hx, rr, r1⟩ := rx
    obtain ⟨b, us, rfl, hy, rr2, r2⟩ := ry
    refine .inr (.inr (.inl ⟨a, b, vs, us, rfl, rfl, hx, hy, by rw [← rr.length, ← rr2.length]; exact q.1, fun e => ?_, fun _ e => ?_, fun _ _ p hp => ?_⟩))
    · have ex : xs = [] := rr.nil_iff.mp e
      subst ex
      exact k.here fs r2 q.2
    · have ey : ys = [] := rr2.nil_iff.mp e
      subst ey
      have q2 := q.2
      rw [List.append_nil] at q2
      exact k.here fs r1 q2
    · exact newT_ok k fs (rr.append rr2) q.2 hp
  · obtain ⟨a, vs, rfl, hx, rr⟩ := rx
    obtain ⟨b, us, rfl, hy, rr2⟩ := ry
    exact .inr (.inr (.inr ⟨a, b, vs, us, rfl, rfl, hx, hy, by rw [← rr.length, ← rr2.length]; exact q.1, fun p hp => newL_ok k fs (rr.append rr2) q.2 hp⟩))
/-- t * 1 -/
theorem tuple_mul1 (l : Addr) (items : Array Value) (n : Nat) (dd : Option Addr) (sl : Array (Option Value)) (u : Tok) :
    Meets (Builtin.«tuple.__mul__» ⟨[.ref l, .int 1 u], []⟩) (fun _ R s => s.heap.get? l = some { cls := .type "tuple", dict := dd, data := .seq items n, slots := sl } ∧ R (.ok (.ret (Value.ref l))) s) :=
  .of_wp fun prog w A R s h => by
    obtain ⟨hp, g, d, tk, os⟩ := s
    obtain ⟨hl, h⟩ := h
    have f1 := AutoSeq1.idx_int
    wp_walk using wpAny_loadPart' hl
    exact ⟨_, rfl, h⟩
theorem tuple_mul0 (l : Addr) (n : Nat) (k : Int) (dd : Option Addr) (sl : Array (Option Value)) (u : Tok) (c0 : (decide (k < -(2 ^ 63)) || decide (k ≥ 2 ^ 63)) = false) :
    Meets (Builtin.«tuple.__mul__» ⟨[.ref l, .int k u], []⟩) (fun _ R s => s.heap.get? l = some { cls := .type "tuple", dict := dd, data := .seq #[] n, slots := sl } ∧ R (.ok (.ret (Value.ref l))) s) :=
  .of_wp fun prog w A R s h => by
    obtain ⟨hp, g, d, tk, os⟩ := s
    obtain ⟨hl, h⟩ := h
    have f1 := AutoSeq1.idx_int
    wp_walk using wpAny_loadPart' hl
    refine wpAny_ite_false (decide_eq_false (by rw [c0]; exact Bool.false_ne_true)) ?_
    wp_walk using wpAny_loadPart' hl
    exact ⟨_, rfl, h⟩
/-- a tuple times an int -/
def rRepU (K : PySem.W.Frag) : R2 := fun x y H Q => ∃ l k xs, x = .ref l ∧ y = .int k ∧ SqT K H l xs ∧ 1 ≤ k ∧ k ≤ 1000 ∧ xs.length ≤ 1000 ∧ (k = 1 ∨ xs = [] → Q (.ref l) H) ∧ (k ≠ 1 → xs ≠ [] → ∀ p, H p = none → Q (.ref p) (upd H p (.tup (List.replicate k.toNat xs).flatten)))
theorem op_repU : OpR X (binaryOp .Mult) (rRepU X.K) := by
  intro pins s σ H x y v u Q I rx ry h
  obtain ⟨l, k, xs, rfl, rfl, hT, h1, h2, hz, q0, q1⟩ := h
  by_cases hk : k = 1 ∨ xs = []
  · have q := q0 hk
    cases rx
    obtain ⟨t, rfl⟩ := ry
    obtain ⟨its, r, ⟨⟨cls, dd, data, sl⟩, ho, hc, n, hd⟩, hs⟩ := I.tuple hT
    simp only at hc hd
    subst hc hd
    have go : ∀ (m : Meets (Builtin.«tuple.__mul__» ⟨[.ref l, .int k t], []⟩) (fun _ R s => s.heap.get? l = some { cls := .type "tuple", dict := dd, data := .seq its.toArray n, slots := sl } ∧ R (.ok (.ret (Value.ref l))) s)),
        wpAny (model X.prog X.w) X.A (binaryOp .Mult (.ref l) (.int k t)) (EP X pins σ Q) X.xe s := fun m =>
      wpAny_binaryOp_repeat_ref (T := "tuple") (U := "int") (by decide) ⟨_, ho, rfl⟩ (fun s' => typeIs_int s' k t) noFill_tuple_mul F.fills_int_mul F.slot_int_rmul repeat_tuple F.slot_int_index.lookup
        (call_meets F.slot_int_rmul (typeIs_int s k t) F.entry_int_rmul (F.args_int_rmul_2 _ _) (int_rmul_tuple k t l its.toArray n dd sl)
          ⟨ho, rfl, ⟨_, ho, rfl⟩, call_meets F.slot_tuple_mul ⟨_, ho, rfl⟩ F.entry_tuple_mul (F.args_tuple_mul_2 _ _) m ⟨ho, ⟨.ref l, H, I, rfl, q⟩⟩⟩)
    rcases hk with rfl | e
    · exact go (tuple_mul1 l its.toArray n dd sl t)
    · subst e
      cases r
      exact go (tuple_mul0 l n k dd sl t (by rw [decide_eq_false (by omega), decide_eq_false (by omega)]; rfl))
  · have hk1 : k ≠ 1 := fun e => hk (.inl e)
    have hx1 : xs ≠ [] := fun e => hk (.inr e)
    exact op_repT pins s σ H _ _ v u Q I rx ry ⟨l, k, xs, rfl, rfl, hT, hx1, by omega, h2, hz, q1 hk1 hx1⟩
/-- a list times an int -/
def rRepL : R2 := fun x y H Q => ∃ l k xs, x = .ref l ∧ y = .int k ∧ Rd H l (.lst xs) ∧ -(2 ^ 63) ≤ k ∧ k < 2 ^ 63 ∧ xs.length * k.toNat ≤ sizeLine ∧
  ∀ p, H p = none → Q (.ref p) (upd H p (.lst (List.replicate k.toNat xs).flatten))
theorem op_repL : OpR X (binaryOp .Mult) rRepL := by
  intro pins s σ H x y v u Q I rx ry h
  obtain ⟨l, k, xs, rfl, rfl, hH, h1, h2, hz, q⟩ := h
  cases rx
  obtain ⟨t, rfl⟩ := ry
  obtain ⟨z, its, n, r, hl, e⟩ := lstR I hH
  have hlen : its.toArray.size * k.toNat ≤ sizeLine := by rw [List.size_toArray, ← hl]; exact hz
  have hcap : ¬ its.toArray.size * k.toNat > (2 ^ 63 - 1) / 8 := by
    have : (sizeLine : Nat) ≤ (2 ^ 63 - 1) / 8 := by decide
    omega
  have hfit : ¬ (!Builtin.List.listFitsIndex k) = true := by
    rw [fitsIndex_both h1 h2]
    exact Bool.false_ne_true
  have hlong : ¬ Builtin.List.listTooLong (its.toArray.size * k.toNat) = true := by
    rw [notLongL hlen]
    exact Bool.false_ne_true
  have hnew : List.foldl (fun x1 x2 => x1 ++ x2) #[] (List.replicate (if its.toArray.isEmpty = true then 0 else k.toNat) its.toArray) = (List.replicate k.toNat its).flatten.toArray := by
    have f0 : ∀ m : Nat, List.foldl (fun x1 x2 => x1 ++ x2) #[] (List.replicate m its.toArray) = (List.replicate m its).flatten.toArray := fun m => by
      have := foldl_rep its m []
      rw [List.nil_append] at this
      exact this
    rw [f0]
    cases its with
    | nil => simp
    | cons a r' => rw [if_neg (by simp)]
  refine wpAny_binaryOp_repeat_ref (T := "list") (U := "int") (by decide) ⟨_, e, rfl⟩ (fun s' => typeIs_int s' k t) noFill_list_mul F.fills_int_mul F.slot_int_rmul repeat_list F.slot_int_index.lookup
    (call_meets F.slot_int_rmul (typeIs_int s k t) F.entry_int_rmul (F.args_int_rmul_2 _ _) (int___rmul___int_list k t l its.toArray n)
      ⟨e, rfl, ⟨_, e, rfl⟩, call_meets F.slot_list_mul ⟨_, e, rfl⟩ F.entry_list_mul (F.args_list_mul_2 _ _) (AutoListH.list___mul___list_int_3 l its.toArray n k t hfit hcap hlong) ⟨e, ?_⟩⟩)
  rw [hnew]
  exact ⟨.ref _, _, I.lnew (t' := s.toks) (r.rep k.toNat) (by rw [PyProof.Rows.lm_len_rep_flat, Nat.mul_comm]; exact hz), rfl, q _ I.fresh⟩
def wMul (m : Bool) : D → D → MS → KV2 → Prop
  | .int i, .int j => fun S Q => CMul i j ∧ Q (.int (i * j)) S
  | .tup xs, .int k => fun S Q => (1 ≤ k ∧ k ≤ 1000 ∧ xs.length ≤ 1000) ∧ Q (.tup (List.replicate k.toNat xs).flatten) S
  | .lst xs, .int k => fun S Q => (-(2 ^ 63) ≤ k ∧ k < 2 ^ 63 ∧ xs.length * k.toNat ≤ sizeLine) ∧ newL m (List.replicate k.toNat xs).flatten S Q
  | _, _ => fun _ _ => False
def rMulA (K : PySem.W.Frag) : R2 := fun x y H Q => (rI CMul fun i j => .int (i * j)) x y H Q ∨ rRepU K x y H Q ∨ rRepL x y H Q
theorem op_mulA : OpR X (binaryOp .Mult) (rMulA X.K) := OpR.or op_mul (OpR.or op_repU op_repL)
theorem ro_mul (m : Bool) : RO2 K (rMulA K) (wMul m) := by
  intro F S H x y vx vy Q R fs rx ry q k
  cases x <;> cases y <;> first | exact q.elim | skip
  · rw [repT_int rx, repT_int ry]
    exact .inl ⟨_, _, rfl, rfl, q.1, k.int fs q.2⟩
  · rename_i xs j
    obtain ⟨a, vs, rfl, hx, rr, r1⟩ := rx
    rw [repT_int ry]
    obtain ⟨⟨q1, q2, q3⟩, q4⟩ := q
    refine .inr (.inl ⟨a, j, vs, rfl, rfl, hx, q1, q2, by rw [← rr.length]; exact q3, fun e => ?_, fun _ _ p hp => newT_ok k fs (rr.rep _) q4 hp⟩)
    have e2 : (List.replicate j.toNat xs).flatten = xs := by
      rcases e with rfl | e
      · simp
      · rw [rr.nil_iff.mp e]
        simp
    rw [e2] at q4
    exact k.here fs r1 q4
  · rename_i xs j
    obtain ⟨a, vs, rfl, hx, rr⟩ := rx
    rw [repT_int ry]
    obtain ⟨⟨q1, q2, q3⟩, q4⟩ := q
    exact .inr (.inr ⟨a, j, vs, rfl, rfl, hx, q1, q2, by rw [← rr.length]; exact q3, fun p hp => newL_ok k fs (rr.rep _) q4 hp⟩)
end
end DL
/-! DL6: comparisons, subscripts, built-ins on data. -/
namespace DL
open PySem PySem.Spec PyProof.Rows L2
/-! ### == -/
mutual
def toPy : D → PyData
  | .non => .none
  | .bl b => .bool b
  | .int i => .int i
  | .str x => .str x
  | .tup ds => .tuple (toPys ds)
  | .lst ds => .list (toPys ds)
  | .dic _ _ => .dict []
  | .obj _ _ _ => .dict []
  | .ref _ => .dict []
def toPys : List D → List PyData
  | [] => []
  | d :: ds => toPy d :: toPys ds
end
theorem toPys_map : ∀ ds, toPys ds = ds.map toPy
  | [] => rfl
  | d :: ds => by rw [toPys, toPys_map ds, List.map_cons]
section
variable {K : PySem.W.Frag} {X : Cx} {F H : Hp} {S : MS}
mutual
theorem dp_of (x : FS K F S H) : ∀ (d : D) (v : V), Rep K F d v → (toPy d).canLay0 = true → Dp K H v (toPy d)
  | .non, _, h, _ => by cases h; exact .non
  | .bl b, _, h, _ => by cases h; exact .bl b
  | .int i, _, h, _ => by cases h; exact .int i
  | .str s, _, h, _ => by cases h; exact .str s
  | .tup ds, _, h, l => by
    cases h with
    | tup hs ha => exact .tup (exf_t x.fr hs) (dps_of x ds _ ha (by simpa [toPy, PyData.canLay0] using l))
  | .lst ds, _, h, l => by
    cases h with
    | lst hs ha => exact .lst (.inl (exf_rd x.fr hs)) (dps_of x ds _ ha (by simpa [toPy, PyData.canLay0] using l))
  | .dic _ _, _, _, l => by simp [toPy, PyData.canLay0] at l
  | .obj _ _ _, _, _, l => by simp [toPy, PyData.canLay0] at l
  | .ref _, _, _, l => by simp [toPy, PyData.canLay0] at l
theorem dps_of (x : FS K F S H) : ∀ (ds : List D) (vs : List V), Reps K F ds vs → PyData.canLayAll0 (toPys ds) = true → DpAll K H vs (toPys ds)
  | [], _, h, _ => by cases h; exact .nil
  | d :: ds, _, h, l => by
    cases h with
    | cons h1 h2 =>
      have l' : ((toPy d).canLay0 && PyData.canLayAll0 (toPys ds)) = true := by simpa [toPys, PyData.canLayAll0] using l
      rw [Bool.and_eq_true] at l'
      exact .cons (dp_of x d _ h1 l'.1) (dps_of x ds _ h2 l'.2)
end
theorem dp_ofT (x : FS K F S H) {d : D} {v : V} (h : RepT K F H d v) (l : SeqAt.shaped (toPy d) = true) : Dp K H v (toPy d) := by
  have c := SeqAt.canLay_of_shaped l
  cases d with
  | lst ds =>
    obtain ⟨a, vs, rfl, h1, h2⟩ := h
    exact .lst (.inl h1) (dps_of x ds _ h2 (by simpa [toPy, PyData.canLay0] using c))
  | tup ds =>
    obtain ⟨a, vs, rfl, h1, h2, _⟩ := h
    exact .tup h1 (dps_of x ds _ h2 (by simpa [toPy, PyData.canLay0] using c))
  | dic ks ds => simp [toPy, PyData.canLay0] at c
  | obj C ns ds => simp [toPy, PyData.canLay0] at c
  | ref a => simp [toPy, PyData.canLay0] at c
  | non => exact dp_of x _ _ h c
  | bl b => exact dp_of x _ _ h c
  | int i => exact dp_of x _ _ h c
  | str s => exact dp_of x _ _ h c
def eqD (x y : D) : Bool := PyData.eqv (toPy x) (toPy y)
def okD (x : D) : Bool := SeqAt.shaped (toPy x)
def wEq : D → D → MS → KV2 → Prop := fun x y S Q => okD x = true ∧ okD y = true ∧ Q (.bl (eqD x y)) S
def wNe : D → D → MS → KV2 → Prop := fun x y S Q => okD x = true ∧ okD y = true ∧ Q (.bl (!eqD x y)) S
theorem ro_eq : RO2 K (rEqD K) wEq := by
  rintro F S H x y vx vy Q R fs rx ry ⟨s1, s2, q⟩ k
  exact ⟨_, _, dp_ofT fs rx s1, dp_ofT fs ry s2, s1, s2, k.bl fs q⟩
theorem ro_ne : RO2 K (rNeD K) wNe := by
  rintro F S H x y vx vy Q R fs rx ry ⟨s1, s2, q⟩ k
  exact ⟨_, _, dp_ofT fs rx s1, dp_ofT fs ry s2, s1, s2, k.bl fs q⟩
/-! ### is -/
def isNon : D → Bool
  | .non => true
  | _ => false
theorem isNon_of {d : D} {v : V} (h : RepT K F H d v) : decide (v = .non) = isNon d := by
  cases d with
  | non => rw [repT_non h]; rfl
  | bl b => rw [repT_bl h]; rfl
  | int b => rw [repT_int h]; rfl
  | str b => rw [repT_str h]; rfl
  | tup ds => obtain ⟨a, vs, rfl, _⟩ := h; rfl
  | lst ds => obtain ⟨a, vs, rfl, _⟩ := h; rfl
  | dic ks ds => obtain ⟨a, vs, rfl, _⟩ := h; rfl
  | obj C ns ds => obtain ⟨a, dx, vs, rfl, _⟩ := h; rfl
  | ref a =>
    have h : Rep K F (.ref a) v := h
    cases h
    rfl
abbrev rIsN : R2 := fun x y H Q => y = .non ∧ Q (.bl (decide (x = .non))) H
abbrev rNotN : R2 := fun x y H Q => y = .non ∧ Q (.bl (!decide (x = .non))) H
def wIsN : D → D → MS → KV2 → Prop
  | x, .non => fun S Q => Q (.bl (isNon x)) S
  | _, _ => fun _ _ => False
def wNotN : D → D → MS → KV2 → Prop
  | x, .non => fun S Q => Q (.bl (!isNon x)) S
  | _, _ => fun _ _ => False
theorem ro_isN : RO2 K rIsN wIsN := by
  intro F S H x y vx vy Q R fs rx ry q k
  cases y <;> first | exact q.elim | skip
  rw [repT_non ry]
  refine ⟨rfl, ?_⟩
  rw [isNon_of rx]
  exact k.bl fs q
theorem ro_notN : RO2 K rNotN wNotN := by
  intro F S H x y vx vy Q R fs rx ry q k
  cases y <;> first | exact q.elim | skip
  rw [repT_non ry]
  refine ⟨rfl, ?_⟩
  rw [isNon_of rx]
  exact k.bl fs q
def wIsB : D → D → MS → KV2 → Prop
  | .bl a, .bl b => fun S Q => Q (.bl (decide (a = b))) S
  | _, _ => fun _ _ => False
def wNotB : D → D → MS → KV2 → Prop
  | .bl a, .bl b => fun S Q => Q (.bl (!decide (a = b))) S
  | _, _ => fun _ _ => False
theorem ro_isB : RO2 K rIsB wIsB := by
  intro F S H x y vx vy Q R fs rx ry q k
  cases x <;> cases y <;> first | exact q.elim | skip
  rw [repT_bl rx, repT_bl ry]
  exact ⟨_, _, rfl, rfl, k.bl fs q⟩
theorem ro_notB : RO2 K rNotB wNotB := by
  intro F S H x y vx vy Q R fs rx ry q k
  cases x <;> cases y <;> first | exact q.elim | skip
  rw [repT_bl rx, repT_bl ry]
  exact ⟨_, _, rfl, rfl, k.bl fs q⟩
/-! ### in -/
def flatD : D → Bool
  | .non => true
  | .bl _ => true
  | .int _ => true
  | .str _ => true
  | _ => false
theorem flat_of {d : D} {v : V} (h : Rep K F d v) (f : flatD d = true) : flatV v = true := by
  cases h <;> first | rfl | exact absurd f Bool.false_ne_true
theorem flat_eq {d e : D} {v u : V} (h : Rep K F d v) (g : Rep K F e u) (f : flatD d = true) (f2 : flatD e = true) : eqV v u = eqD d e := by
  cases h <;> cases g <;> first | exact absurd f Bool.false_ne_true | exact absurd f2 Bool.false_ne_true | simp [eqV, eqD, toPy, PyData.eqv]
theorem flat_all : ∀ {ds : List D} {vs : List V}, Reps K F ds vs → ds.all flatD = true → vs.all flatV = true
  | [], _, h, _ => by cases h; rfl
  | d :: ds, _, h, f => by
    cases h with
    | cons h1 h2 =>
      rw [List.all_cons, Bool.and_eq_true] at f
      rw [List.all_cons, flat_of h1 f.1, flat_all h2 f.2]
      rfl
theorem flat_in {d : D} {v : V} (h : Rep K F d v) (f : flatD d = true) : ∀ {ds : List D} {vs : List V}, Reps K F ds vs → ds.all flatD = true → inV v vs = ds.any fun y => eqD y d
  | [], _, g, _ => by cases g; rfl
  | e :: ds, _, g, f2 => by
    cases g with
    | cons h1 h2 =>
      rw [List.all_cons, Bool.and_eq_true] at f2
      unfold inV
      rw [List.any_cons, List.any_cons, flat_eq h1 h f2.1 f]
      have := flat_in h f h2 f2.2
      unfold inV at this
      rw [this]
def inD (x : D) (ds : List D) : Bool := ds.any fun y => eqD y x
def wIn (neg : Bool) : D → D → MS → KV2 → Prop
  | x, .lst ds => fun S Q => flatD x = true ∧ ds.all flatD = true ∧ Q (.bl (if neg then !inD x ds else inD x ds)) S
  | x, .tup ds => fun S Q => flatD x = true ∧ ds.all flatD = true ∧ Q (.bl (if neg then !inD x ds else inD x ds)) S
  | _, _ => fun _ _ => False
theorem repT_flat {d : D} {v : V} (h : RepT K F H d v) (f : flatD d = true) : Rep K F d v := by
  cases d <;> first | exact h | cases f
theorem ro_in (neg : Bool) : RO2 K (rIn K neg) (wIn neg) := by
  intro F S H x y vx vy Q R fs rx ry q k
  cases y <;> first | exact q.elim | skip
  · obtain ⟨f1, f2, q⟩ := q
    obtain ⟨a, vs, rfl, h1, h2, _⟩ := ry
    have r := repT_flat rx f1
    refine ⟨a, vs, rfl, .inr h1, flat_of r f1, flat_all h2 f2, ?_⟩
    rw [flat_in r f1 h2 f2]
    exact k.bl fs q
  · obtain ⟨f1, f2, q⟩ := q
    obtain ⟨a, vs, rfl, h1, h2⟩ := ry
    have r := repT_flat rx f1
    refine ⟨a, vs, rfl, .inl (.inl h1), flat_of r f1, flat_all h2 f2, ?_⟩
    rw [flat_in r f1 h2 f2]
    exact k.bl fs q
/-! ### subscripts -/
def wIx : D → D → MS → KV2 → Prop
  | .lst ds, .int i => fun S Q => ∃ d, atI ds i = some d ∧ Q d S
  | .tup ds, .int i => fun S Q => ∃ d, atI ds i = some d ∧ Q d S
  | _, _ => fun _ _ => False
theorem reps_at {ds : List D} {vs : List V} {i : Int} {d : D} (r : Reps K F ds vs) (h : atI ds i = some d) : ∃ v, atI vs i = some v ∧ Rep K F d v := by
  unfold atI at h ⊢
  rw [← r.length]
  cases e : ixN ds.length i with
  | none => rw [e] at h; cases h
  | some j =>
    rw [e] at h
    exact r.get h
theorem ro_ix : RO2 K (rIx K) wIx := by
  intro F S H x y vx vy Q R fs rx ry q k
  cases x <;> cases y <;> first | exact q.elim | skip
  · obtain ⟨d, hd, q⟩ := q
    obtain ⟨a, vs, rfl, h1, h2, _⟩ := rx
    obtain ⟨v, hv, rv⟩ := reps_at h2 hd
    rw [repT_int ry]
    exact .inr (.inl ⟨a, vs, _, v, rfl, rfl, h1, hv, k.here fs rv q⟩)
  · obtain ⟨d, hd, q⟩ := q
    obtain ⟨a, vs, rfl, h1, h2⟩ := rx
    obtain ⟨v, hv, rv⟩ := reps_at h2 hd
    rw [repT_int ry]
    exact .inl ⟨a, vs, _, v, rfl, rfl, .inl h1, hv, k.here fs rv q⟩
variable {L : Lk} {a b c : Expr} {ta tb tc : TE} {wa wb wc : WE} {pos p2 : Pos}
theorem de_ix (ha : DE X L a ta wa) (hb : DE X L b tb wb) (hs : PlainIx b := by exact fun _ _ => rfl) : DE X L (.Subscript a b pos) (tOp (rIx X.K) ta tb) (wOp wIx wa wb) := ⟨pe_ix ix_seq ha.pe hb.pe hs, re_op ro_ix ha.re hb.re⟩
/-- slices -/
abbrev WO := Rho → MS → (Option Int → Rho → MS → Prop) → Prop
def RO (K : PySem.W.Frag) (L : Lk) (t : TO) (w : WO) : Prop :=
  ∀ F ρ S σ H (Q : Option Int → Rho → MS → Prop) (R : Option Int → Hp → Prop), Mt K L F ρ S σ H → w ρ S Q → (∀ b H' ρ' S' F', ExF F F' → Mt K L F' ρ' S' σ H' → Q b ρ' S' → R b H') → t σ H R
structure DO (X : Cx) (L : Lk) (e : Option Expr) (t : TO) (w : WO) : Prop where
  po : PO X e t
  ro : RO X.K L t w
def wNoPart : WO := fun ρ S Q => Q none ρ S
def wPart (w : WE) : WO := fun ρ S Q => w ρ S fun x ρ1 S1 => ∃ i, x = .int i ∧ Q (some i) ρ1 S1
theorem do_none : DO X L none tNoPart wNoPart := ⟨po_none, fun F ρ S σ H Q R m q k => k none H ρ S F (ExF.refl F) m q⟩
theorem do_some (h : DE X L a ta wa) : DO X L (some a) (tPart ta) (wPart wa) := ⟨po_some h.pe, fun F ρ S σ H Q R m q k => h.re F ρ S σ H _ _ m q fun v H1 d ρ1 S1 F1 e1 m1 r1 ⟨i, e, q1⟩ => by
  subst e
  cases r1
  exact ⟨i, rfl, k _ H1 ρ1 S1 F1 e1 m1 q1⟩⟩
def cutD (xs : List D) (lo hi : Option Int) : List D := (xs.drop (HT.sIx xs.length 0 lo)).take (HT.sIx xs.length xs.length hi - HT.sIx xs.length 0 lo)
theorem reps_cut {ds : List D} {vs : List V} (r : Reps K F ds vs) (lo hi : Option Int) : Reps K F (cutD ds lo hi) (cutV vs lo hi) := by
  unfold cutD cutV
  rw [r.length]
  exact (r.drop _).take _
/-- the cut of a value -/
def wCut (m : Bool) (lo hi : Option Int) : D → MS → KV2 → Prop
  | .lst ds => fun S Q => newL m (cutD ds lo hi) S Q
  | .tup ds => fun S Q => Q (.tup (cutD ds lo hi)) S
  | _ => fun _ _ => False
def wSl (m : Bool) (wa : WE) (wl wh : WO) : WE := fun ρ S Q => wa ρ S fun x ρ1 S1 => wl ρ1 S1 fun lo ρ2 S2 => wh ρ2 S2 fun hi ρ3 S3 => wCut m lo hi (rd S3 x) S3 fun d S4 => Q d ρ3 S4
/-- a list's cut, a tuple's -/
def rSlA2 (K : PySem.W.Frag) : V → Option Int → Option Int → Hp → VK → Prop := fun x lo hi H Q => rSlL K x lo hi H Q ∨ rSlA K x lo hi H Q
theorem sl_all : SlR X (rSlA2 X.K) := SlR.or sl_list sl_tupA
theorem cut_whole {ds : List D} {lo hi : Option Int} (h : HT.sIx ds.length 0 lo = 0 ∧ HT.sIx ds.length ds.length hi = ds.length) : cutD ds lo hi = ds := by
  unfold cutD
  rw [h.1, h.2]
  simp
theorem re_sl (m : Bool) {tl th : TO} {wl wh : WO} (h : RE K L ta wa) (hl : RO K L tl wl) (hh : RO K L th wh) : RE K L (tSl (rSlA2 K) ta tl th) (wSl m wa wl wh) := by
  intro F ρ S σ H Q R mt q k
  refine h F ρ S σ H _ _ mt q fun x H1 dx ρ1 S1 F1 e1 m1 r1 q1 => ?_
  refine hl F1 ρ1 S1 σ H1 _ _ m1 q1 fun lo H2 ρ2 S2 F2 e2 m2 q2 => ?_
  refine hh F2 ρ2 S2 σ H2 _ _ m2 q2 fun hi H3 ρ3 S3 F3 e3 m3 q3 => ?_
  have rt := rd_ok m3.fs ((r1.up e2).up e3)
  have k2 : KO K F3 (fun d S4 => Q d ρ3 S4) R := fun v H' d S' F' e x r q => k v H' d ρ3 S' F' (((e1.trans e2).trans e3).trans e) (m3.step e x) r q
  generalize rd S3 dx = y at rt q3
  cases y <;> first | exact q3.elim | skip
  · rename_i ds
    obtain ⟨a, vs, rfl, h1, h2, h3⟩ := rt
    refine .inr ⟨a, vs, rfl, h1, fun hw => ?_, fun hw p hp => newT_ok k2 m3.fs (reps_cut h2 lo hi) q3 hp⟩
    rw [← h2.length] at hw
    have q4 : Q (.tup (cutD ds lo hi)) ρ3 S3 := q3
    rw [cut_whole hw] at q4
    exact k2.here m3.fs h3 q4
  · obtain ⟨a, vs, rfl, h1, h2⟩ := rt
    exact .inl ⟨a, vs, rfl, .inl h1, fun p hp => newL_ok k2 m3.fs (reps_cut h2 lo hi) q3 hp⟩
theorem de_sl (m : Bool) {lo hi : Option Expr} {tl th : TO} {wl wh : WO} (h : DE X L a ta wa) (hl : DO X L lo tl wl) (hh : DO X L hi th wh) : DE X L (.Subscript a (.Slice lo hi none p2) pos) (tSl (rSlA2 X.K) ta tl th) (wSl m wa wl wh) :=
  ⟨pe_slice sl_all h.pe hl.po hh.po, re_sl m h.re hl.ro hh.ro⟩
/-! ### built-ins -/
variable {x : Str} {p : Pos} {e : Expr} {es : List Expr} {t : TA} {wr : WA} {id T : String} {r : List V → Hp → VK → Prop}
def wCB (wo : List D → MS → KV2 → Prop) (wr : WA) : WE := fun ρ S Q => wr ρ S fun ds ρ1 S1 => wo ds S1 fun d S2 => Q d ρ1 S2
theorem re_cb {wo : List D → MS → KV2 → Prop} (hr : ROc K r wo) (h : RA K L t wr) : RE K L (tCB r t) (wCB wo wr) := by
  intro F ρ S σ H Q R m q k
  refine h F ρ S σ H _ _ m q fun vs H1 ds ρ1 S1 F1 e1 m1 r1 q1 => ?_
  exact hr F1 S1 H1 ds vs _ _ m1.fs r1 q1 fun v H' d S' F' e x r q => k v H' d ρ1 S' F' (e1.trans e) (m1.step e x) r q
theorem de_cb {wo : List D → MS → KV2 → Prop} (hc : CallR X (.builtin id) r) (hr : ROc X.K r wo) (hg : Gl X x) (hm : X.mg x = none) (hv : bootBuiltins x = some (.builtin id)) (ha : DA X L (e :: es) t wr) (hn : x ≠ "__name__" := by decide) (hdb : (x == ("__debug__" : Str)) = false := by decide)
    (he : starEach (e :: es) X.env = (false, eval e X.env) :: starEach es X.env := by rfl) (hpl : (backTo pos (starEach es X.env)).any (·.1) = false := by rfl) : DE X L (.Call (.Name x p) (e :: es) [] pos) (tCB r t) (wCB wo wr) :=
  ⟨pe_callB hc hg hm hv ha.pa hn hdb he hpl, re_cb hr ha.ra⟩
theorem de_ct {wo : List D → MS → KV2 → Prop} (hc : CallR X (.type T) r) (hr : ROc X.K r wo) (hg : Gl X x) (hm : X.mg x = none) (hv : bootBuiltins x = some (.type T)) (ha : DA X L (e :: es) t wr) (hn : x ≠ "__name__" := by decide) (hdb : (x == ("__debug__" : Str)) = false := by decide)
    (he : starEach (e :: es) X.env = (false, eval e X.env) :: starEach es X.env := by rfl) (hpl : (backTo pos (starEach es X.env)).any (·.1) = false := by rfl) : DE X L (.Call (.Name x p) (e :: es) [] pos) (tCB r t) (wCB wo wr) :=
  ⟨pe_callTy hc hg hm hv ha.pa hn hdb he hpl, re_cb hr ha.ra⟩
/-- one argument, its data read through the store -/
def w1 (f : D → MS → KV2 → Prop) : List D → MS → KV2 → Prop := fun ds S Q => match ds with
  | [d] => f (rd S d) S Q
  | _ => False
def w2 (f : D → D → MS → KV2 → Prop) : List D → MS → KV2 → Prop := fun ds S Q => match ds with
  | [d, e] => f (rd S d) (rd S e) S Q
  | _ => False
theorem roc1 {f : D → MS → KV2 → Prop} (h : ∀ F S H x v Q R, FS K F S H → RepT K F H x v → f x S Q → KO K F Q R → r [v] H R) : ROc K r (w1 f) := by
  intro F S H xs vs Q R fs rs q k
  cases rs with
  | nil => exact q.elim
  | cons r1 r2 =>
    cases r2 with
    | nil => exact h F S H _ _ Q R fs (rd_ok fs r1) q k
    | cons _ _ => exact q.elim
theorem roc2 {f : D → D → MS → KV2 → Prop} (h : ∀ F S H x y v u Q R, FS K F S H → RepT K F H x v → RepT K F H y u → f x y S Q → KO K F Q R → r [v, u] H R) : ROc K r (w2 f) := by
  intro F S H xs vs Q R fs rs q k
  cases rs with
  | nil => exact q.elim
  | cons r1 r2 =>
    cases r2 with
    | nil => exact q.elim
    | cons r2 r3 =>
      cases r3 with
      | nil => exact h F S H _ _ _ _ Q R fs (rd_ok fs r1) (rd_ok fs r2) q k
      | cons _ _ => exact q.elim
def cLen : D → MS → KV2 → Prop
  | .lst ds => fun S Q => Q (.int ds.length) S
  | .tup ds => fun S Q => Q (.int ds.length) S
  | .str z => fun S Q => z.length ≤ sizeLine ∧ Q (.int z.length) S
  | _ => fun _ _ => False
abbrev rLen1 (K : PySem.W.Frag) : List V → Hp → VK → Prop := fun xs H Q => ∃ x n, xs = [x] ∧ LenV K x H n ∧ Q (.int n) H
theorem roc_len : ROc K (rLen1 K) (w1 cLen) := roc1 fun F S H x v Q R fs rx q k => by
  cases x <;> first | exact q.elim | skip
  · rw [repT_str rx]
    exact ⟨_, _, rfl, ⟨q.1, rfl⟩, k.int fs q.2⟩
  · obtain ⟨a, vs, rfl, h1, h2, _⟩ := rx
    refine ⟨_, _, rfl, .inr ⟨vs, h1, rfl⟩, ?_⟩
    rw [← h2.length]
    exact k.int fs q
  · obtain ⟨a, vs, rfl, h1, h2⟩ := rx
    refine ⟨_, _, rfl, .inl ⟨vs, .inl h1, rfl⟩, ?_⟩
    rw [← h2.length]
    exact k.int fs q
def cAbs : D → MS → KV2 → Prop
  | .int i => fun S Q => Q (.int (if i < 0 then -i else i)) S
  | _ => fun _ _ => False
abbrev rAbs1 : List V → Hp → VK → Prop := fun xs H Q => ∃ i, xs = [.int i] ∧ Q (.int (if i < 0 then -i else i)) H
theorem roc_abs : ROc K rAbs1 (w1 cAbs) := roc1 fun F S H x v Q R fs rx q k => by
  cases x <;> first | exact q.elim | skip
  rw [repT_int rx]
  exact ⟨_, rfl, k.int fs q⟩
def cInt : D → MS → KV2 → Prop
  | .int i => fun S Q => Q (.int i) S
  | .bl b => fun S Q => Q (.int (if b then 1 else 0)) S
  | _ => fun _ _ => False
abbrev rInt1 : List V → Hp → VK → Prop := fun xs H Q => (∃ i, xs = [.int i] ∧ Q (.int i) H) ∨ ∃ k, xs = [.bl k] ∧ Q (.int (if k then 1 else 0)) H
theorem roc_int : ROc K rInt1 (w1 cInt) := roc1 fun F S H x v Q R fs rx q k => by
  cases x <;> first | exact q.elim | skip
  · rw [repT_bl rx]
    exact .inr ⟨_, rfl, k.int fs q⟩
  · rw [repT_int rx]
    exact .inl ⟨_, rfl, k.int fs q⟩
abbrev rMin2 : List V → Hp → VK → Prop := fun xs H Q => ∃ i j, xs = [.int i, .int j] ∧ Q (.int (if j < i then j else i)) H
abbrev rMax2 : List V → Hp → VK → Prop := fun xs H Q => ∃ i j, xs = [.int i, .int j] ∧ Q (.int (if j > i then j else i)) H
def cII (g : Int → Int → Int) : D → D → MS → KV2 → Prop
  | .int i, .int j => fun S Q => Q (.int (g i j)) S
  | _, _ => fun _ _ => False
theorem roc_min2 : ROc K rMin2 (w2 (cII fun i j => if j < i then j else i)) := roc2 fun F S H x y v u Q R fs rx ry q k => by
  cases x <;> cases y <;> first | exact q.elim | skip
  rw [repT_int rx, repT_int ry]
  exact ⟨_, _, rfl, k.int fs q⟩
theorem roc_max2 : ROc K rMax2 (w2 (cII fun i j => if j > i then j else i)) := roc2 fun F S H x y v u Q R fs rx ry q k => by
  cases x <;> cases y <;> first | exact q.elim | skip
  rw [repT_int rx, repT_int ry]
  exact ⟨_, _, rfl, k.int fs q⟩
/-- all, any of a list of flags -/
def cAll : D → MS → KV2 → Prop
  | .lst ds => fun S Q => ∃ bs : List Bool, ds = bs.map D.bl ∧ Q (.bl (bs.all _root_.id)) S
  | _ => fun _ _ => False
def cAny : D → MS → KV2 → Prop
  | .lst ds => fun S Q => ∃ bs : List Bool, ds = bs.map D.bl ∧ Q (.bl (bs.any _root_.id)) S
  | _ => fun _ _ => False
theorem roc_all : ROc K (rAll K) (w1 cAll) := roc1 fun F S H x v Q R fs rx q k => by
  cases x <;> first | exact q.elim | skip
  obtain ⟨bs, e, q⟩ := q
  subst e
  obtain ⟨a, vs, rfl, h1, h2⟩ := rx
  have e := h2.bls
  subst e
  exact ⟨a, bs, rfl, .inl h1, k.bl fs q⟩
theorem roc_any : ROc K (rAny K) (w1 cAny) := roc1 fun F S H x v Q R fs rx q k => by
  cases x <;> first | exact q.elim | skip
  obtain ⟨bs, e, q⟩ := q
  subst e
  obtain ⟨a, vs, rfl, h1, h2⟩ := rx
  have e := h2.bls
  subst e
  exact ⟨a, bs, rfl, .inl h1, k.bl fs q⟩
/-- list(x), tuple(x) -/
def cList (m : Bool) : D → MS → KV2 → Prop
  | .lst ds => fun S Q => newL m ds S Q
  | .tup ds => fun S Q => newL m ds S Q
  | _ => fun _ _ => False
abbrev rListOf (K : PySem.W.Frag) : List V → Hp → VK → Prop := fun xs H Q => ∃ p ys, xs = [.ref p] ∧ (SqL K H p ys ∨ SqT K H p ys) ∧ ∀ l, H l = none → Q (.ref l) (upd H l (.lst ys))
theorem roc_list (m : Bool) : ROc K (rListOf K) (w1 (cList m)) := roc1 fun F S H x v Q R fs rx q k => by
  cases x <;> first | exact q.elim | skip
  · obtain ⟨a, vs, rfl, h1, h2, _⟩ := rx
    exact ⟨a, vs, rfl, .inr h1, fun l hl => newL_ok k fs h2 q hl⟩
  · obtain ⟨a, vs, rfl, h1, h2⟩ := rx
    exact ⟨a, vs, rfl, .inl (.inl h1), fun l hl => newL_ok k fs h2 q hl⟩
def cTuple : D → MS → KV2 → Prop
  | .lst ds => fun S Q => Q (.tup ds) S
  | .tup ds => fun S Q => Q (.tup ds) S
  | _ => fun _ _ => False
abbrev rTupleOf (K : PySem.W.Frag) : List V → Hp → VK → Prop := fun xs H Q => ∃ p ys, xs = [.ref p] ∧ ((SqL K H p ys ∧ ∀ l, H l = none → Q (.ref l) (upd H l (.tup ys))) ∨ (SqT K H p ys ∧ Q (.ref p) H))
theorem roc_tuple : ROc K (rTupleOf K) (w1 cTuple) := roc1 fun F S H x v Q R fs rx q k => by
  cases x <;> first | exact q.elim | skip
  · obtain ⟨a, vs, rfl, h1, h2, h3⟩ := rx
    exact ⟨a, vs, rfl, .inr ⟨h1, k.here fs h3 q⟩⟩
  · obtain ⟨a, vs, rfl, h1, h2⟩ := rx
    exact ⟨a, vs, rfl, .inl ⟨.inl h1, fun l hl => newT_ok k fs h2 q hl⟩⟩
/-- sorted of ints -/
def cSortedI (m : Bool) : D → MS → KV2 → Prop
  | .lst ds => fun S Q => ∃ ns : List Int, ds = ns.map D.int ∧ ∀ ns' : List Int, ns'.Perm ns → ns'.Pairwise (· ≤ ·) → newL m (ns'.map D.int) S Q
  | _ => fun _ _ => False
theorem roc_sortedI (m : Bool) : ROc K (rSortedI K) (w1 (cSortedI m)) := roc1 fun F S H x v Q R fs rx q k => by
  cases x <;> first | exact q.elim | skip
  obtain ⟨ns, e, q⟩ := q
  subst e
  obtain ⟨a, vs, rfl, h1, h2⟩ := rx
  have e := h2.ints
  subst e
  exact ⟨a, ns, rfl, .inl h1, fun ns' p hp hs hn => newL_ok k fs (.of_ints ns') (q ns' hp hs) hn⟩
end
end DL
/-! DL7: methods, stores, what is walked, isinstance. -/
namespace DL
open PySem PySem.Spec PyProof.Rows L2
section
variable {K : PySem.W.Frag} {X : Cx} {F H : Hp} {S : MS} {L : Lk} {a b c e o : Expr} {es : List Expr} {ta tb tc to : TE} {wa wb wc wo : WE} {t : TA} {wr : WA} {pos p2 p apos cpos : Pos}
/-! ### methods of lists -/
def TyD (T : String) : D → Prop
  | .lst _ => T = "list"
  | .str _ => T = "str"
  | .dic _ _ => T = "dict"
  | _ => False
theorem tyD_ok {T : String} {d : D} {v : V} (h : RepT K F H d v) (ty : TyD T d) : tyV K T v H := by
  cases d <;> first | exact False.elim ty | skip
  · rw [repT_str h]
    exact ty
  · obtain ⟨a, vs, rfl, h1, h2⟩ := h
    exact .inl ⟨ty, vs, .inl h1⟩
  · obtain ⟨a, kvs, rfl, h1, h2⟩ := h
    exact .inr (.inr (.inl ⟨ty, .inl ⟨kvs, h1⟩⟩))
/-- a method on values: the receiver as it is (an address, where it may change) -/
def RM (K : PySem.W.Frag) (r : V → List V → Hp → VK → Prop) (wm : D → List D → MS → KV2 → Prop) : Prop :=
  ∀ F S H x vx xs vs Q R, FS K F S H → Rep K F x vx → Reps K F xs vs → wm x xs S Q → KO K F Q R → r vx vs H R
def wBM (T : String) (wm : D → List D → MS → KV2 → Prop) (wo : WE) (wr : WA) : WE := fun ρ S Q => wo ρ S fun x ρ1 S1 => TyD T (rd S1 x) ∧ wr ρ1 S1 fun xs ρ2 S2 => wm x xs S2 fun d S3 => Q d ρ2 S3
theorem re_bm {T : String} {r : V → List V → Hp → VK → Prop} {wm : D → List D → MS → KV2 → Prop} (hr : RM K r wm) (ho : RE K L to wo) (ha : RA K L t wr) : RE K L (tBM K T r to t) (wBM T wm wo wr) := by
  intro F ρ S σ H Q R m q k
  refine ho F ρ S σ H _ _ m q fun x H1 dx ρ1 S1 F1 e1 m1 r1 ⟨ty, q1⟩ => ⟨tyD_ok (rd_ok m1.fs r1) ty, ?_⟩
  refine ha F1 ρ1 S1 σ H1 _ _ m1 q1 fun vs H2 ds ρ2 S2 F2 e2 m2 r2 q2 => ?_
  exact hr F2 S2 H2 _ _ _ _ _ _ m2.fs (r1.up e2) r2 q2 fun v H' d S' F' e x r q => k v H' d ρ2 S' F' ((e1.trans e2).trans e) (m2.step e x) r q
theorem re_bm0 {T : String} {r : V → List V → Hp → VK → Prop} {wm : D → List D → MS → KV2 → Prop} (hr : RM K r wm) (ho : RE K L to wo) : RE K L (tBM0 K T r to) (wBM T wm wo wNil) := by
  intro F ρ S σ H Q R m q k
  refine ho F ρ S σ H _ _ m q fun x H1 dx ρ1 S1 F1 e1 m1 r1 ⟨ty, q1⟩ => ⟨tyD_ok (rd_ok m1.fs r1) ty, ?_⟩
  exact hr F1 S1 H1 _ _ _ _ _ _ m1.fs r1 .nil q1 fun v H' d S' F' e x r q => k v H' d ρ1 S' F' (e1.trans e) (m1.step e x) r q
theorem de_bm {T id : String} {name : Str} {r : V → List V → Hp → VK → Prop} {wm : D → List D → MS → KV2 → Prop} (pa : PlainAttrs T) (slot : Slot T name id) (hty : typeOf (.builtin id) = pure (.type "method_descriptor")) (hm : MtR X id r) (hr : RM X.K r wm) (ho : DE X L o to wo) (ha : DA X L (e :: es) t wr)
    (hbase : attributeBase o name X.env (eval o X.env) = eval o X.env := by rfl)
    (hfew : ((backTo cpos (starEach (e :: es) X.env)).all (fun x => !x.1) && (backToKw cpos (keywordEach [] X.env)).all (fun x => x.1.isSome)
      && decide ((e :: es).length + ([] : List Keyword).length + (if ([] : List Keyword).isEmpty then 0 else 1) < 30)) = true := by rfl)
    (hline : (apos.endLine == cpos.line) = true := by rfl) (hs : starEach (e :: es) X.env = (false, eval e X.env) :: starEach es X.env := by rfl) (hplain : (backTo cpos (starEach es X.env)).any (·.1) = false := by rfl) :
    DE X L (.Call (.Attribute o name apos) (e :: es) [] cpos) (tBM X.K T r to t) (wBM T wm wo wr) := ⟨pe_bm pa slot hty hm ho.pe ha.pa hbase hfew hline hs hplain, re_bm hr ho.re ha.ra⟩
theorem de_bm0 {T id : String} {name : Str} {r : V → List V → Hp → VK → Prop} {wm : D → List D → MS → KV2 → Prop} (pa : PlainAttrs T) (slot : Slot T name id) (hty : typeOf (.builtin id) = pure (.type "method_descriptor")) (hm : MtR X id r) (hr : RM X.K r wm) (ho : DE X L o to wo)
    (hbase : attributeBase o name X.env (eval o X.env) = eval o X.env := by rfl) (hline : (apos.endLine == cpos.line) = true := by rfl) : DE X L (.Call (.Attribute o name apos) [] [] cpos) (tBM0 X.K T r to) (wBM T wm wo wNil) := ⟨pe_bm0 pa slot hty hm ho.pe hbase hline, re_bm0 hr ho.re⟩
def wAppend : D → List D → MS → KV2 → Prop := fun x xs S Q => ∃ a ds d, x = .ref a ∧ xs = [d] ∧ S a = some (.lst ds) ∧ ds.length < sizeLine ∧ Q .non (S.set a (.lst (ds ++ [d])))
theorem KO.put {F : Hp} {S : MS} {H : Hp} {Q : KV2} {R : VK} (k : KO K F Q R) (fs : FS K F S H) {a : Addr} {n m : MO} {ob : HO} {d : D} {v : V} (hs : S a = some n) (nm : isOpq m = false) (ok : MOk K F (S.set a m) (upd H a ob) a m) (r : Rep K F d v) (q : Q d (S.set a m)) : R v (upd H a ob) :=
  k v _ d _ F (ExF.refl F) (fs.write hs nm ok) r q
theorem rm_append : RM K rAppend wAppend := by
  rintro F S H x vx xs vs Q R fs rx rs ⟨a, ds, d, rfl, rfl, hs, hz, q⟩ k
  cases rx
  cases rs with
  | cons r1 r2 =>
    cases r2
    obtain ⟨_, us, hu, ru⟩ := fs.st a _ hs
    exact ⟨a, us, _, rfl, rfl, hu, by rw [← ru.length]; exact hz, k.put fs (m := .lst (ds ++ [d])) hs rfl ⟨_, upd_same, ru.append (.cons r1 .nil)⟩ .non q⟩
/-- extend by a list -/
def rExtR : V → List V → Hp → VK → Prop := fun x vs H Q => ∃ l b xs zs, x = .ref l ∧ vs = [.ref b] ∧ H l = some (.lst xs) ∧ Rd H b (.lst zs) ∧ xs.length + zs.length ≤ sizeLine ∧ Q .non (upd H l (.lst (xs ++ zs)))
theorem mt_extR : MtR X "list.extend" rExtR := by
  intro pins s σ H x vs v us Q I rx rv h
  obtain ⟨l, b, xs, zs, rfl, rfl, hH, hB, hz, q⟩ := h
  cases rx
  obtain ⟨u, rfl, ru⟩ := rv.one
  cases ru
  obtain ⟨z, its, n, r, hl, e⟩ := I.lstM hH
  obtain ⟨z2, its2, n2, r2, hl2, e2⟩ := lstR I hB
  have hsz : its.toArray.size + its2.toArray.size ≤ sizeLine := by rw [List.size_toArray, List.size_toArray]; omega
  have hlong : ¬ (!its.toArray.isEmpty && Builtin.List.listTooLong (its.toArray.size + its2.toArray.size)) = true := by
    rw [notLongL hsz, Bool.and_false]
    exact Bool.false_ne_true
  refine call_meets F.slot_list_extend ⟨_, e, rfl⟩ F.entry_list_extend (F.args_list_extend_2 _ _)
    (AutoSeq1.list_extend_list_list_0 l its.toArray n b its2.toArray n2 hlong (by rw [List.size_toArray]; omega) (by omega)) ⟨e, e2, ?_⟩
  refine ⟨.non, _, I.lset (its' := its ++ its2) hH e (by simp) (r.append r2) ?_, rfl, q⟩
  rw [List.length_append]
  omega
def wExtend : D → List D → MS → KV2 → Prop := fun x xs S Q => ∃ a ds y es, x = .ref a ∧ xs = [y] ∧ rd S y = .lst es ∧ S a = some (.lst ds) ∧ ds.length + es.length ≤ sizeLine ∧ Q .non (S.set a (.lst (ds ++ es)))
theorem rm_extend : RM K rExtR wExtend := by
  rintro F S H x vx xs vs Q R fs rx rs ⟨a, ds, y, es, rfl, rfl, hy, hs, hz, q⟩ k
  cases rx
  cases rs with
  | cons r1 r2 =>
    cases r2
    obtain ⟨_, us, hu, ru⟩ := fs.st a _ hs
    have r3 := rd_ok fs r1
    rw [hy] at r3
    obtain ⟨b, ws, rfl, hb, rb⟩ := r3
    exact ⟨a, b, us, ws, rfl, rfl, hu, hb, by rw [← ru.length, ← rb.length]; exact hz, k.put fs (m := .lst (ds ++ es)) hs rfl ⟨_, upd_same, ru.append rb⟩ .non q⟩
def wPop : D → List D → MS → KV2 → Prop := fun x xs S Q => ∃ a ds d, x = .ref a ∧ xs = [] ∧ S a = some (.lst ds) ∧ ds[ds.length - 1]? = some d ∧ Q d (S.set a (.lst ds.dropLast))
theorem rm_pop : RM K rPop wPop := by
  rintro F S H x vx xs vs Q R fs rx rs ⟨a, ds, d, rfl, rfl, hs, hd, q⟩ k
  cases rx
  cases rs
  obtain ⟨_, us, hu, ru⟩ := fs.st a _ hs
  obtain ⟨v, hv, rv⟩ := ru.get hd
  exact ⟨a, us, v, rfl, rfl, hu, by rw [← ru.length]; exact hv, k.put fs (m := .lst ds.dropLast) hs rfl ⟨_, upd_same, ru.dropLast⟩ rv q⟩
def wPopAt : D → List D → MS → KV2 → Prop := fun x xs S Q => ∃ a ds i j d, x = .ref a ∧ xs = [.int i] ∧ S a = some (.lst ds) ∧ i = ((j : Nat) : Int) ∧ ds[j]? = some d ∧ ds.length ≤ sizeLine ∧ Q d (S.set a (.lst (ds.eraseIdx j)))
theorem rm_popAt : RM K rPopAt wPopAt := by
  rintro F S H x vx xs vs Q R fs rx rs ⟨a, ds, i, j, d, rfl, rfl, hs, rfl, hd, hz, q⟩ k
  cases rx
  cases rs with
  | cons r1 r2 =>
    cases r2
    cases r1
    obtain ⟨_, us, hu, ru⟩ := fs.st a _ hs
    obtain ⟨v, hv, rv⟩ := ru.get hd
    have hj : j < ds.length := (List.getElem?_eq_some_iff.mp hd).1
    have hl : (sizeLine : Nat) = 16777216 := sizeLine_eq
    have hlen := ru.length
    exact ⟨a, us, _, j, v, rfl, rfl, hu, by omega, by omega, PySem.StrLaws.seqIndex_nonneg (by omega) (by omega), hv, k.put fs (m := .lst (ds.eraseIdx j)) hs rfl ⟨_, upd_same, ru.eraseIdx j⟩ rv q⟩
/-! ### xs[i] = v -/
def wSetL : D → D → D → MS → (MS → Prop) → Prop := fun x i v S Q => ∃ a ds k j, x = .ref a ∧ i = .int k ∧ S a = some (.lst ds) ∧ ixN ds.length k = some j ∧ Q (S.set a (.lst (ds.set j v)))
def wgSub (wo wi : WE) (ws : D → D → D → MS → (MS → Prop) → Prop) : WG := fun d ρ S Q => wo ρ S fun x ρ1 S1 => wi ρ1 S1 fun i ρ2 S2 => ws x i d S2 fun S3 => Q ρ2 S3
theorem rg_setL {ti : TE} {wi : WE} (ho : RE K L to wo) (hi : RE K L ti wi) : RG K L [] (gSub to ti rSetL) (wgSub wo wi wSetL) := by
  intro F ρ S σ H d v Q R m r q k
  refine ho F ρ S σ H _ _ m q fun x H1 dx ρ1 S1 F1 e1 m1 r1 q1 => ?_
  refine hi F1 ρ1 S1 σ H1 _ _ m1 q1 fun y H2 dy ρ2 S2 F2 e2 m2 r2 ⟨a, ds, kk, j, h1, h2, hs, hj, q2⟩ => ?_
  subst h1 h2
  cases r1
  cases r2
  obtain ⟨_, us, hu, ru⟩ := m2.fs.st a _ hs
  have fs3 := m2.fs.write (n := .lst (ds.set j d)) hs rfl ⟨us.set j v, upd_same, Reps.set ((r.up e1).up e2) j ru⟩
  exact ⟨a, us, kk, j, rfl, rfl, hu, by rw [← ru.length]; exact hj, k F2 ρ2 _ σ _ (e1.trans e2) (m2.step (ExF.refl F2) fs3) rfl q2⟩
theorem dg_setL {i : Expr} {ti : TE} {wi : WE} (ho : DE X L o to wo) (hi : DE X L i ti wi)
    (ha : ∀ v, assign (.Subscript o i pos) X.env v = (do
      let ov ← holding [v] (eval o X.env)
      let iv ← holding [v, ov] (eval i X.env)
      standAt pos
      holding [v, ov, iv] (setItem ov iv v)
      release [v, ov, iv] []) := by intro _; rfl) : DG X L [] (.Subscript o i pos) (gSub to ti rSetL) (wgSub wo wi wSetL) := ⟨pg_sub ho.pe hi.pe set_list ha, rg_setL ho.re hi.re⟩
/-! ### what is walked -/
/-- a list or a tuple, as it stands -/
def iSeq (K : PySem.W.Frag) (tl : TE) : TI := fun σ H R => tl σ H fun x H1 => ∃ a, x = .ref a ∧ (((∃ xs, SqL K H1 a xs) ∧ R (Itl K a) H1) ∨ ((∃ xs, SqT K H1 a xs) ∧ R (Itt K a) H1))
theorem pi_seq {tg l : Expr} {tl : TE} (hl : PE X l tl) : PI X tg l (iSeq X.K tl) := by
  refine ⟨fun pins s σ H R I h => ?_⟩
  refine thn (hl.run pins s σ H _ I h) fun v s1 ⟨x, H1, I1, r1, q1⟩ => ?_
  obtain ⟨a, e, q1⟩ := q1
  subst e
  cases r1
  rcases q1 with ⟨⟨xs, hq⟩, q⟩ | ⟨⟨xs, hq⟩, q⟩
  · obtain ⟨its, rv, p, hz⟩ := I1.list hq
    refine wpAny_pyIter_list p.isList ?_
    refine ⟨s1.heap.objs.size, [s1.heap.objs.size], _, _, H1, rfl, I1.kept (t' := s1.toks) fun b o e => Heap.get?_push_of_some _ e, turn_list a _, ⟨_, Heap.get?_push_size _ rfl, rfl, rfl⟩, fun b hb => ?_, q⟩
    have e : b = s1.heap.objs.size := by simpa using hb
    subst e
    exact I1.fpOk (Nat.le_refl _) (I1.hok.fresh (Nat.le_refl _))
  · obtain ⟨its, rv, p, hz⟩ := I1.tuple hq
    refine wpAny_pyIter_tuple (show s1.heap.IsTuple a its.toArray from p) ?_
    refine ⟨s1.heap.objs.size, [s1.heap.objs.size], _, _, H1, rfl, I1.kept (t' := s1.toks) fun b o e => Heap.get?_push_of_some _ e, turn_tuple a _, ⟨_, Heap.get?_push_size _ rfl, rfl, rfl⟩, fun b hb => ?_, q⟩
    have e : b = s1.heap.objs.size := by simpa using hb
    subst e
    exact I1.fpOk (Nat.le_refl _) (I1.hok.fresh (Nat.le_refl _))
/-- the items of what is walked, and what must stay as it is meanwhile -/
def itemsOf (S : MS) : D → Option (List D × (MS → Prop))
  | .lst ds => some (ds, noG)
  | .tup ds => some (ds, noG)
  | .ref a => match S a with
    | some (.lst ds) => some (ds, fun S' => S' a = some (.lst ds))
    | _ => none
  | _ => none
def wiSeq (wa : WE) : WI := fun ρ S Q => wa ρ S fun x ρ1 S1 => match itemsOf S1 x with
  | some (ds, g) => Q ds g ρ1 S1
  | none => False
theorem walkD_l {a : Addr} {vs : List V} {ds : List D} (h : Rd F a (.lst vs)) (r : Reps K F ds vs) : WalkD K F (Itl K a) ds noG where
  goes := fun i F' S' H' hi e x _ => ⟨vs, vs[i]'(by rw [← r.length]; exact hi), .inl (exf_rd x.fr (exf_rd e h)), by simp⟩
  stops := fun F' S' H' e x _ => ⟨vs, .inl (exf_rd x.fr (exf_rd e h)), by rw [r.length]; exact Nat.le_refl _⟩
  yields := fun i F' S' H' v H2 hi e x _ y => by
    obtain ⟨rfl, y⟩ := y
    obtain ⟨u, hu, ru⟩ := r.get (List.getElem?_eq_getElem hi)
    have := y vs (.inl (exf_rd x.fr (exf_rd e h)))
    rw [hu] at this
    cases this
    exact ⟨_, F', List.getElem?_eq_getElem hi, ExF.refl _, x, ru.up e⟩
theorem walkD_t {a : Addr} {vs : List V} {ds : List D} (h : SqT K F a vs) (r : Reps K F ds vs) : WalkD K F (Itt K a) ds noG where
  goes := fun i F' S' H' hi e x _ => ⟨vs, vs[i]'(by rw [← r.length]; exact hi), exf_t x.fr (exf_t e h), by simp⟩
  stops := fun F' S' H' e x _ => ⟨vs, exf_t x.fr (exf_t e h), by rw [r.length]; exact Nat.le_refl _⟩
  yields := fun i F' S' H' v H2 hi e x _ y => by
    obtain ⟨rfl, y⟩ := y
    obtain ⟨u, hu, ru⟩ := r.get (List.getElem?_eq_getElem hi)
    have := y vs (exf_t x.fr (exf_t e h))
    rw [hu] at this
    cases this
    exact ⟨_, F', List.getElem?_eq_getElem hi, ExF.refl _, x, ru.up e⟩
theorem walkD_m {a : Addr} {ds : List D} : WalkD K F (Itl K a) ds (fun S' => S' a = some (.lst ds)) where
  goes := fun i F' S' H' hi e x g => by
    obtain ⟨_, vs, hv, r⟩ := x.st a _ g
    exact ⟨vs, vs[i]'(by rw [← r.length]; exact hi), SqL.of hv, by simp⟩
  stops := fun F' S' H' e x g => by
    obtain ⟨_, vs, hv, r⟩ := x.st a _ g
    exact ⟨vs, SqL.of hv, by rw [r.length]; exact Nat.le_refl _⟩
  yields := fun i F' S' H' v H2 hi e x g y => by
    obtain ⟨rfl, y⟩ := y
    obtain ⟨_, vs, hv, r⟩ := x.st a _ g
    obtain ⟨u, hu, ru⟩ := r.get (List.getElem?_eq_getElem hi)
    have := y vs (SqL.of hv)
    rw [hu] at this
    cases this
    exact ⟨_, F', List.getElem?_eq_getElem hi, ExF.refl _, x, ru⟩
theorem ri_seq (h : RE K L ta wa) : RI K L (iSeq K ta) (wiSeq wa) := by
  intro F ρ S σ H Q R m q k
  refine h F ρ S σ H _ _ m q fun x H1 dx ρ1 S1 F1 e1 m1 r1 q1 => ?_
  cases r1 with
  | lst h1 h2 => exact ⟨_, rfl, .inl ⟨⟨_, .inl (exf_rd m1.fs.fr h1)⟩, k _ H1 _ _ ρ1 S1 F1 e1 m1 (walkD_l h1 h2) q1⟩⟩
  | tup h1 h2 => exact ⟨_, rfl, .inr ⟨⟨_, exf_t m1.fs.fr h1⟩, k _ H1 _ _ ρ1 S1 F1 e1 m1 (walkD_t h1 h2) q1⟩⟩
  | ref a =>
    have q1 : match (match S1 a with
      | some (.lst ds) => some (ds, fun S' : MS => S' a = some (.lst ds))
      | _ => none) with
      | some (ds, g) => Q ds g ρ1 S1
      | none => False := q1
    cases e : S1 a with
    | none => rw [e] at q1; exact q1.elim
    | some m =>
      rw [e] at q1
      cases m <;> first | exact q1.elim | skip
      obtain ⟨_, vs, hv, r⟩ := m1.fs.st a _ e
      exact ⟨_, rfl, .inl ⟨⟨vs, SqL.of hv⟩, k _ H1 _ _ ρ1 S1 F1 e1 m1 walkD_m q1⟩⟩
  | non => exact q1.elim
  | bl b => exact q1.elim
  | int i => exact q1.elim
  | str s => exact q1.elim
  | dic _ _ _ => exact q1.elim
  | obj _ _ _ => exact q1.elim
theorem di_seq {tg : Expr} (h : DE X L a ta wa) : DI X L tg a (iSeq X.K ta) (wiSeq wa) := ⟨pi_seq h.pe, ri_seq h.re⟩
/-- a range -/
def rangeD (lo : Int) (n : Nat) : List D := (List.range n).map fun i => D.int (lo + (i : Nat))
theorem rangeD_length (lo : Int) (n : Nat) : (rangeD lo n).length = n := by simp [rangeD]
theorem rangeD_get {lo : Int} {n i : Nat} (h : i < n) : (rangeD lo n)[i]? = some (.int (lo + (i : Nat))) := by simp [rangeD, h]
theorem walkD_r {lo : Int} {n : Nat} : WalkD K F (Itr lo n) (rangeD lo n) noG where
  goes := fun i F' S' H' hi e x _ => by rw [rangeD_length] at hi; exact hi
  stops := fun F' S' H' e x _ => by rw [rangeD_length]; exact Nat.le_refl _
  yields := fun i F' S' H' v H2 hi e x _ y => by
    rw [rangeD_length] at hi
    obtain ⟨rfl, rfl⟩ := y
    exact ⟨_, F', rangeD_get hi, ExF.refl _, x, .int _⟩
def wiRng1 (wr : WA) : WI := fun ρ S Q => wr ρ S fun ds ρ1 S1 => ∃ j : Int, ds = [.int j] ∧ (-(2 ^ 62) ≤ j ∧ j < 2 ^ 62) ∧ Q (rangeD 0 j.toNat) noG ρ1 S1
def wiRng2 (wr : WA) : WI := fun ρ S Q => wr ρ S fun ds ρ1 S1 => ∃ i j : Int, ds = [.int i, .int j] ∧ (-(2 ^ 62) ≤ i ∧ i < 2 ^ 62 ∧ -(2 ^ 62) ≤ j ∧ j < 2 ^ 62) ∧ Q (rangeD i (j - i).toNat) noG ρ1 S1
theorem di_range1 {tg : Expr} (hg : Gl X "range") (hm : X.mg "range" = none) (ha : DA X L [a] t wr) (hs : starEach [a] X.env = [(false, eval a X.env)] := by rfl) : DI X L tg (.Call (.Name "range" p) [a] [] pos) (iRng1 t) (wiRng1 wr) :=
  ⟨pi_range1 hg hm ha.pa hs, fun F ρ S σ H Q R m q k => ha.ra F ρ S σ H _ _ m q fun vs H1 ds ρ1 S1 F1 e1 m1 r1 ⟨j, e, ⟨h1, h2⟩, q1⟩ => by
    subst e
    cases r1 with
    | cons r1 r2 =>
      cases r1
      cases r2
      exact ⟨j, rfl, h1, h2, k _ H1 _ _ ρ1 S1 F1 e1 m1 walkD_r q1⟩⟩
theorem di_range2 {tg : Expr} (hg : Gl X "range") (hm : X.mg "range" = none) (ha : DA X L [a, b] t wr) (hs : starEach [a, b] X.env = [(false, eval a X.env), (false, eval b X.env)] := by rfl) (hs2 : starEach [b] X.env = [(false, eval b X.env)] := by rfl) :
    DI X L tg (.Call (.Name "range" p) [a, b] [] pos) (iRng2 t) (wiRng2 wr) :=
  ⟨pi_range2 hg hm ha.pa hs hs2, fun F ρ S σ H Q R m q k => ha.ra F ρ S σ H _ _ m q fun vs H1 ds ρ1 S1 F1 e1 m1 r1 ⟨i, j, e, h1, q1⟩ => by
    subst e
    cases r1 with
    | cons r1 r2 =>
      cases r1
      cases r2 with
      | cons r2 r3 =>
        cases r2
        cases r3
        exact ⟨i, j, rfl, h1, k _ H1 _ _ ρ1 S1 F1 e1 m1 walkD_r q1⟩⟩
/-- list(range(..)), tuple(range(..)) -/
theorem rgV_D (i j : Int) : Reps K F (rangeD i (j - i).toNat) (rgV i j) := by
  unfold rangeD rgV
  induction (List.range (j - i).toNat) with
  | nil => exact .nil
  | cons x r ih => exact .cons (.int _) ih
def wLstRg1 (m : Bool) (wa : WE) : WE := fun ρ S Q => wa ρ S fun x ρ1 S1 => ∃ n, x = .int n ∧ RgOk 0 n ∧ newL m (rangeD 0 (n - 0).toNat) S1 fun d S2 => Q d ρ1 S2
theorem de_listRg1 (m : Bool) {p3 pos3 : Pos} (hc : X.calm = true) (hg : Gl X "list") (hm : X.mg "list" = none) (hg2 : Gl X "range") (hm2 : X.mg "range" = none) (h : DE X L a ta wa) (na : starEach [a] X.env = (false, eval a X.env) :: starEach [] X.env := by rfl)
    (na2 : starEach [.Call (.Name "range" p) [a] [] pos] X.env = (false, eval (.Call (.Name "range" p) [a] [] pos) X.env) :: starEach [] X.env := by rfl) :
    DE X L (.Call (.Name "list" p3) [.Call (.Name "range" p) [a] [] pos] [] pos3) (tLstRg (tRg1 ta)) (wLstRg1 m wa) :=
  ⟨pe_listRg hc hg hm (prg_1 hg2 hm2 h.pe na) na2, fun F ρ S σ H Q R mt q k => h.re F ρ S σ H _ _ mt q fun v H1 d ρ1 S1 F1 e1 m1 r1 ⟨n, e, ok, q1⟩ => by
    subst e
    cases r1
    exact ⟨n, rfl, ok, fun p hp => newL_ok (Q := fun d S2 => Q d ρ1 S2) (fun v H' d S' F' e x r q => k v H' d ρ1 S' F' (e1.trans e) (m1.step e x) r q) m1.fs (rgV_D 0 n) q1 hp⟩⟩
/-- y = [..] -/
theorem ds_setLc (mu : Bool) (i : Nat) {y : Str} {py : Pos} {elt tg iter : Expr} {ifs : List Expr} {scope : Scope} {spos : Pos} {ti : TI} {wi : WI} {g : TG} {wg : WG} {tt : TT} {wt : WT} {te : TE} {we : WE} (own : List (Str × Nat)) (hc : X.calm = true) (hN : X.N.Nodup) (hi : DI X L tg iter ti wi) (ok : BlkOk X.N X.env.scope scope own)
    (hg : ∀ (s : Shared) (H : Hp) (C : Addr) (cl : List (Str × Addr)) (fp : List Addr), DG (X.blk s H scope (compEnvC scope cl C X.env) fp) L (own.map (·.2)) tg g wg) (ht : ∀ (s : Shared) (H : Hp) (C : Addr) (cl : List (Str × Addr)) (fp : List Addr), DTs (X.blk s H scope (compEnvC scope cl C X.env) fp) L ifs tt wt)
    (he : ∀ (s : Shared) (H : Hp) (C : Addr) (cl : List (Str × Addr)) (fp : List Addr), DE (X.blk s H scope (compEnvC scope cl C X.env) fp) L elt te we) (hs : ∀ x, foldedSetIterable iter X.env x = pure x := by intro _; rfl)
    (hy : X.N[i]? = some y := by rfl) (hyl : X.env.scope.names.lookup y = some .local := by rfl) (hsw : swapsWith (.ListComp elt [⟨tg, iter, ifs, 0⟩] scope pos) (some (.Name y py)) spos.line X.env = pure true := by exact sw_true rfl rfl rfl (by decide +kernel)) :
    DS X L (.Assign [.Name y py] (.ListComp elt [⟨tg, iter, ifs, 0⟩] scope pos) spos) (tAsg (tLc ti g tt te (own.map (·.2))) (gName i)) (wAsg (wLc mu (own.map (·.2)) wi wg wt we) (wgName i)) :=
  ⟨ps_setLc hc hN hy hyl hsw hi.pi ok (fun s H C cl fp => (hg s H C cl fp).pg) (fun s H C cl fp => (ht s H C cl fp).pts) (fun s H C cl fp => (he s H C cl fp).pe) hs,
    rs_asg (vs := [i]) (re_lc hi.ri (hg X.s_0 X.H_0 0 [] []).rg (ht X.s_0 X.H_0 0 [] []).rt (he X.s_0 X.H_0 0 [] []).re) (rg_name (List.mem_singleton.mpr rfl))⟩
end
end DL
/-! DL8: isinstance, enumerate, zip, sorted tuples, reversed slices. -/
namespace DL
open PySem PySem.Spec PyProof.Rows L2
/-! ### isinstance, built-in classes -/
inductive BT where
  | int | bool | str | tuple | list | dict
def BT.nm : BT → String
  | .int => "int" | .bool => "bool" | .str => "str" | .tuple => "tuple" | .list => "list" | .dict => "dict"
def isK : BT → D → Bool
  | .int, .int _ => true
  | .int, .bl _ => true
  | .bool, .bl _ => true
  | .str, .str _ => true
  | .tuple, .tup _ => true
  | .list, .lst _ => true
  | .dict, .dic _ _ => true
  | _, _ => false
/-- no instance, no address -/
def plD : D → Bool
  | .obj _ _ _ => false
  | .ref _ => false
  | _ => true
def tyNm : D → String
  | .non => "NoneType" | .bl _ => "bool" | .int _ => "int" | .str _ => "str" | .tup _ => "tuple" | .lst _ => "list" | .dic _ _ => "dict" | _ => "object"
section
variable {K : PySem.W.Frag} {X : Cx} {F H : Hp} {S : MS} {L : Lk} {a b c e o : Expr} {es : List Expr} {ta tb tc to : TE} {wa wb wc wo : WE} {t : TA} {wr : WA} {pos p2 p apos cpos : Pos}
theorem tyX_of {d : D} {v : V} (h : RepT K F H d v) (pl : plD d = true) : TyX K H v (.type (tyNm d)) := by
  cases d <;> first | exact absurd pl Bool.false_ne_true | skip
  · rw [repT_non h]; exact .base .non
  · rw [repT_bl h]; exact .base (.bl _)
  · rw [repT_int h]; exact .base (.int _)
  · rw [repT_str h]; exact .base (.str _)
  · obtain ⟨a, vs, rfl, h1, _⟩ := h
    rcases h1 with (h1 | ⟨o, h1⟩) | ⟨o, its, n, hk, hc, _⟩
    · exact .base (.tup h1)
    · exact .fTuple h1
    · exact .kTuple hk hc
  · obtain ⟨a, vs, rfl, h1, _⟩ := h
    rcases h1 with h1 | ⟨o, h1⟩
    · exact .base (.lst h1)
    · exact .base (.frz h1)
  · obtain ⟨a, kvs, rfl, h1, _⟩ := h
    exact .base (.dK h1)
def sk : D → D
  | .bl _ => .bl true
  | .int _ => .int 0
  | .str _ => .str ⟨#[]⟩
  | .tup _ => .tup []
  | .lst _ => .lst []
  | .dic _ _ => .dic [] []
  | _ => .non
theorem kit_known (T : BT) (d : D) (pl : plD d = true) : PySem.W.kitOne K (.type (tyNm d)) (.type T.nm) = some (isK T d) := by
  have h0 : kitB "NoneType" T.nm = some (isK T .non) := by cases T <;> decide +kernel
  have h1 : kitB "bool" T.nm = some (isK T (.bl true)) := by cases T <;> decide +kernel
  have h2 : kitB "int" T.nm = some (isK T (.int 0)) := by cases T <;> decide +kernel
  have h3 : kitB "str" T.nm = some (isK T (.str ⟨#[]⟩)) := by cases T <;> decide +kernel
  have h4 : kitB "tuple" T.nm = some (isK T (.tup [])) := by cases T <;> decide +kernel
  have h5 : kitB "list" T.nm = some (isK T (.lst [])) := by cases T <;> decide +kernel
  have h6 : kitB "dict" T.nm = some (isK T (.dic [] [])) := by cases T <;> decide +kernel
  have e2 : isK T d = isK T (sk d) := by cases d <;> cases T <;> rfl
  rw [e2]
  refine kit_ty ?_
  cases d <;> first | exact absurd pl Bool.false_ne_true | exact h0 | exact h1 | exact h2 | exact h3 | exact h4 | exact h5 | exact h6
def wIsi (T : BT) (wa : WE) : WE := fun ρ S Q => wa ρ S fun x ρ1 S1 => plD (rd S1 x) = true ∧ Q (.bl (isK T (rd S1 x))) ρ1 S1
theorem re_isi (T : BT) (h : RE K L ta wa) : RE K L (tCB (rIsi K) (tCons ta (tCons (tC (.ty T.nm)) tNil))) (wIsi T wa) := by
  intro F ρ S σ H Q R m q k
  refine h F ρ S σ H _ _ m q fun x H1 dx ρ1 S1 F1 e1 m1 r1 ⟨pl, q1⟩ => ?_
  have rt := rd_ok m1.fs r1
  exact ⟨x, .ty T.nm, .type (tyNm (rd S1 dx)), .type T.nm, _, rfl, .ty _, tyX_of rt pl, kit_known T _ pl, k _ H1 _ ρ1 S1 F1 e1 m1 (.bl _) q1⟩
theorem bty (T : BT) : bootBuiltins (Str.ofString T.nm) = some (.type T.nm) := by cases T <;> decide +kernel
theorem de_isi (T : BT) {x : Str} {q1 : Pos} (hg : Gl X "isinstance") (hm : X.mg "isinstance" = none) (h : DE X L a ta wa) (hx : x = Str.ofString T.nm := by rfl) (hgx : Gl X x := by rfl) (hmx : X.mg x = none := by assumption) (hn : x ≠ "__name__" := by decide) (hdb : (x == ("__debug__" : Str)) = false := by decide)
    (he : starEach [a, .Name x q1] X.env = (false, eval a X.env) :: starEach [.Name x q1] X.env := by rfl) (he2 : starEach [.Name x q1] X.env = (false, eval (.Name x q1) X.env) :: starEach [] X.env := by rfl) (hpl : (backTo pos (starEach [.Name x q1] X.env)).any (·.1) = false := by rfl) :
    DE X L (.Call (.Name "isinstance" p) [a, .Name x q1] [] pos) (tCB (rIsi X.K) (tCons ta (tCons (tC (.ty T.nm)) tNil))) (wIsi T wa) := by
  subst hx
  exact ⟨pe_callB call_isi hg hm (by decide +kernel) (pa_cons h.pe (pa_cons (pe_bltn hgx hmx (bty T) rfl hn hdb) pa_nil he2) he) (by decide) (by decide) he hpl, re_isi T h.re⟩
def wIsi2 (T T2 : BT) (wa : WE) : WE := fun ρ S Q => wa ρ S fun x ρ1 S1 => plD (rd S1 x) = true ∧ Q (.bl (isK T (rd S1 x) || isK T2 (rd S1 x))) ρ1 S1
theorem re_isi2 (T T2 : BT) (h : RE K L ta wa) : RE K L (tCB (rIsiT K) (tCons ta (tCons (tTup (tCons (tC (.ty T.nm)) (tCons (tC (.ty T2.nm)) tNil))) tNil))) (wIsi2 T T2 wa) := by
  intro F ρ S σ H Q R m q k
  refine h F ρ S σ H _ _ m q fun x H1 dx ρ1 S1 F1 e1 m1 r1 ⟨pl, q1⟩ => ?_
  refine ⟨by show 2 ≤ sizeLine; decide, fun p hp => ?_⟩
  have fs2 := m1.fs.drop (o := .tup [.ty T.nm, .ty T2.nm]) hp
  have rt := rd_ok fs2 r1
  refine ⟨x, p, [.ty T.nm, .ty T2.nm], .type (tyNm (rd S1 dx)), [.type T.nm, .type T2.nm], _, rfl, upd_same, .cons (.ty _) (.cons (.ty _) .nil), tyX_of rt pl, ?_, k _ _ _ ρ1 S1 F1 e1 (m1.step (ExF.refl F1) fs2) (.bl _) q1⟩
  refine kitAny_cons (kit_known T _ pl) (fun e => ?_) fun e => by rw [e, Bool.true_or]
  refine kitAny_cons (kit_known T2 _ pl) (fun e2 => ?_) fun e2 => by rw [e2, Bool.or_true]
  rw [e, e2]
  exact kitAny_nil
theorem de_isi2 (T T2 : BT) {x y : Str} {q1 q2 q3 : Pos} {kt : Nat} (hg : Gl X "isinstance") (hm : X.mg "isinstance" = none) (h : DE X L a ta wa) (hx : x = Str.ofString T.nm := by rfl) (hy : y = Str.ofString T2.nm := by rfl) (hgx : Gl X x := by rfl) (hgy : Gl X y := by rfl) (hmx : X.mg x = none := by assumption) (hmy : X.mg y = none := by assumption)
    (hn : x ≠ "__name__" := by decide) (hdb : (x == ("__debug__" : Str)) = false := by decide) (hn2 : y ≠ "__name__" := by decide) (hdb2 : (y == ("__debug__" : Str)) = false := by decide)
    (he : starEach [a, .Tuple [.Name x q1, .Name y q2] kt q3] X.env = (false, eval a X.env) :: starEach [.Tuple [.Name x q1, .Name y q2] kt q3] X.env := by rfl)
    (he2 : starEach [.Tuple [.Name x q1, .Name y q2] kt q3] X.env = (false, eval (.Tuple [.Name x q1, .Name y q2] kt q3) X.env) :: starEach [] X.env := by rfl)
    (he3 : starEach [.Name x q1, .Name y q2] X.env = (false, eval (.Name x q1) X.env) :: starEach [.Name y q2] X.env := by rfl) (he4 : starEach [.Name y q2] X.env = (false, eval (.Name y q2) X.env) :: starEach [] X.env := by rfl)
    (hpl : (backTo pos (starEach [.Tuple [.Name x q1, .Name y q2] kt q3] X.env)).any (·.1) = false := by rfl) :
    DE X L (.Call (.Name "isinstance" p) [a, .Tuple [.Name x q1, .Name y q2] kt q3] [] pos) (tCB (rIsiT X.K) (tCons ta (tCons (tTup (tCons (tC (.ty T.nm)) (tCons (tC (.ty T2.nm)) tNil))) tNil))) (wIsi2 T T2 wa) := by
  subst hx hy
  exact ⟨pe_callB call_isiT hg hm (by decide +kernel) (pa_cons h.pe (pa_cons (pe_tup (pa_cons (pe_bltn hgx hmx (bty T) rfl hn hdb) (pa_cons (pe_bltn hgy hmy (bty T2) rfl hn2 hdb2) pa_nil he4) he3)) pa_nil he2) he) (by decide) (by decide) he hpl, re_isi2 T T2 h.re⟩
/-! ### enumerate -/
theorem meets_enumerate_newT (l : Addr) (items : Array Value) :
    Meets (Builtin.«enumerate.__new__» ⟨[.type "enumerate", .ref l], []⟩) (fun _ R s => s.heap.IsTuple l items ∧
      R (.ok (.ret (.ref (s.heap.push { cls := .type "tuple_iterator", data := .fields #[.ref l, .int 0 0] }).objs.size)))
        { s with heap := (s.heap.push { cls := .type "tuple_iterator", data := .fields #[.ref l, .int 0 0] }).push { cls := .type "enumerate", data := .fields #[.none, .bool false, .ref s.heap.objs.size, rawInt 0, .none, .none] } }) :=
  .of_wp fun prog w A R s h => by
    obtain ⟨hp, g, d, tk, os⟩ := s; obtain ⟨hl, h⟩ := h
    have hsub := sub_enumerate
    have q1 : ∀ {A' : Around} {E : Value → Shared → Prop} {Q : Value → Shared → Prop}, Q (.ref hp.objs.size) ⟨hp.push { cls := .type "tuple_iterator", data := .fields #[.ref l, .int 0 0] }, g, d, tk, os⟩ → wpAny (model prog w) A' (pyIter (.ref l)) Q E ⟨hp, g, d, tk, os⟩ :=
      fun q => wpAny_pyIter_tuple hl q
    wp_walk using q1
    refine wpAny_stack_any fun st => wpAny_pure ?_
    split
    · rename_i c _ _ _ _ _
      cases (c == Value.type "enumerate")
      · wp_walk using q1
        exact ⟨_, rfl, h⟩
      · wp_walk using q1
        exact ⟨_, rfl, h⟩
    · wp_walk using q1
      exact ⟨_, rfl, h⟩
theorem call_enumerate_tup {prog : Program} {w : World} {A : Around} {E : Value → Shared → Prop} {s : Shared} {l : Addr} {items : Array Value} {Q : Value → Shared → Prop} (hL : s.heap.IsTuple l items)
    (h : ∀ h', IsEnum h' (s.heap.objs.size + 1) s.heap.objs.size 0 .none → h'.IsTupleIter s.heap.objs.size l 0 → h'.objs.size = s.heap.objs.size + 2 →
      (∀ b o, s.heap.get? b = some o → h'.get? b = some o) → Q (.ref (s.heap.objs.size + 1)) { s with heap := h' }) :
    wpAny (model prog w) A (call (.type "enumerate") [.ref l]) Q E s := by
  refine callType_new F.called_enumerate (by decide) (F.typeCall_enumerate_1 _) (F.newCall_enumerate_1 _) (fun obj => F.args_object_init_2 obj _) F.entry_enumerate_new
    (meets_enumerate_newT l items) ⟨hL, ?_⟩
  have hz : (s.heap.push { cls := .type "tuple_iterator", data := .fields #[.ref l, .int 0 0] }).objs.size = s.heap.objs.size + 1 := Heap.size_push ..
  show _ ∧ _
  rw [hz]
  have he : IsEnum ((s.heap.push { cls := .type "tuple_iterator", data := .fields #[.ref l, .int 0 0] }).push
      { cls := .type "enumerate", data := .fields #[.none, .bool false, .ref s.heap.objs.size, rawInt 0, .none, .none] }) (s.heap.objs.size + 1) s.heap.objs.size 0 .none := by
    have := Heap.get?_push_size (s.heap.push { cls := .type "tuple_iterator", data := .fields #[.ref l, .int 0 0] })
      (o := { cls := .type "enumerate", data := .fields #[.none, .bool false, .ref s.heap.objs.size, rawInt 0, .none, .none] }) rfl
    rw [hz] at this; exact this
  refine ⟨⟨_, he, rfl⟩, h _ he ⟨_, Heap.get?_push_of_some _ (Heap.get?_push_size _ rfl), rfl, rfl⟩ (by rw [Heap.size_push, hz]) fun b o x => Heap.get?_push_of_some _ (Heap.get?_push_of_some _ x)⟩
/-- the tuple at a, each item in a new pair -/
def IteT (K : PySem.W.Frag) (a : Addr) : It :=
  ⟨fun i H => ∃ (xs : List V) (x : V), SqT K H a xs ∧ xs[i]? = some x, fun i H v H' => ∃ T x, v = .ref T ∧ H T = none ∧ H' = upd H T (.tup [.int (i : Nat), x]) ∧ ∀ xs, SqT K H a xs → xs[i]? = some x, fun i H => ∃ xs : List V, SqT K H a xs ∧ xs.length = i⟩
theorem turn_enumT {P : Program} {w : World} {K : PySem.W.Frag} {elts : List Expr} {kk : Nat} {tpos : Pos} (a e it : Addr) (hae : a ≠ it) (hae2 : e ≠ a) :
    Turn P w K (.Tuple elts kk tpos) (IteT K a) [e, it] e (fun i h => (∃ old, IsEnum h e it ((i : Nat) : Int) old) ∧ h.IsTupleIter it a i ∧ e ≠ it) where
  mem := by simp
  obj := fun i h st b hb => by
    obtain ⟨⟨old, he⟩, ⟨o, ho, hc, hd⟩, _⟩ := st
    have e' : b = e ∨ b = it := by simpa using hb
    rcases e' with z | z
    · rw [z]; exact ⟨_, he, fun v q => nomatch q⟩
    · rw [z]; exact ⟨o, ho, fun v q => by rw [hd] at q; cases q⟩
  keep := fun i h h' st k => let ⟨⟨old, he⟩, hi, hne⟩ := st; ⟨⟨old, k e (by simp) _ he⟩, hi.at fun o q => k it (by simp) o q, hne⟩
  item := by
    intro X hP hw hK hc i pins s σ H E I hf st hg
    subst hP hw hK
    obtain ⟨⟨old, he⟩, hit, hne⟩ := st
    obtain ⟨xs, x, hq, hx⟩ := hg
    obtain ⟨its, rv, p, hz⟩ := I.tuple hq
    obtain ⟨u, hu, ru⟩ := rv.get hx
    have hel : e < s.heap.objs.size := Heap.lt_size he
    have hil : it < s.heap.objs.size := by obtain ⟨_, q, _⟩ := hit; exact Heap.lt_size q
    have D := Draws.tuple (prog := X.prog) (w := X.w) (A := X.A.in1) (I.ok.hd hc) it a hae its.toArray
    have hi : i < its.toArray.size := by
      have := (List.getElem?_eq_some_iff.mp hx).1
      have := rv.length
      simp
      omega
    refine wpAny_pyNext_enum_itemD D he ⟨hit, p⟩ hi hne (by simp [hne, hae2]) fun y h' tk hy ho hst hT hsz hk => ?_
    have ey : y = u := by
      have h1 : its.toArray[i]? = some y := hy
      have h2 : its.toArray[i]? = some u := by simpa using hu
      rw [h1] at h2
      exact Option.some.inj h2
    subst ey
    refine ⟨_, rfl, wpAny_letOwnedTupleGo_enum (s := { s with heap := h', toks := tk + 1 }) ho fun h'' he' sb => ?_⟩
    have hT2 : h''.get? s.heap.objs.size = some { cls := .type "tuple", data := .seq #[.int i tk, y] } := (sb.2 _ (Nat.ne_of_gt hel)).trans hT
    have new : ObjOk X.prog X.w (upd H s.heap.objs.size (.tup [.int (i : Nat), x])) h'' s.heap.objs.size (.tup [.int (i : Nat), x]) :=
      ⟨by show 2 ≤ sizeLine; decide, [.int i tk, y], .cons ⟨_, rfl⟩ (.cons ru .nil), ⟨_, hT2, rfl, _, rfl⟩⟩
    have I1 : Inv X pins σ (upd H s.heap.objs.size (.tup [.int (i : Nat), x])) { s with heap := h'', toks := tk + 1 } :=
      I.turnedNew (ch := [e, it]) (fun b ob hb q => (sb.2 b (fun z => hb (by simp [z]))).trans (hk b ob (fun z => hb (by simp [z])) (fun z => hb (by simp [z])) q)) hf (Nat.le_refl _) new
    refine ⟨.ref s.heap.objs.size, _, I1, rfl, ⟨_, x, rfl, I.hok.fresh (Nat.le_refl _), rfl, fun ys hy => by rw [I.tuple_inj hy hq]; exact hx⟩, ⟨⟨y, ?_⟩, hst.1.at fun o q => (sb.2 it (Ne.symm hne)).trans q, hne⟩, fun b hb => ?_⟩
    · have e1 : ((i + 1 : Nat) : Int) = (i : Int) + 1 := by omega
      rw [e1]; exact he'
    · have hb' : b < s.heap.objs.size := by
        have e' : b = e ∨ b = it := by simpa using hb
        rcases e' with z | z
        · rw [z]; exact hel
        · rw [z]; exact hil
      rw [upd_ne (Nat.ne_of_lt hb')]
      exact (hf b hb).1
  done := by
    intro X hP hw hK hc i pins s σ H E I hf st hg
    subst hP hw hK
    obtain ⟨⟨old, he⟩, hit, hne⟩ := st
    obtain ⟨xs, hq, hx⟩ := hg
    obtain ⟨its, rv, p, hz⟩ := I.tuple hq
    obtain ⟨f0, f1, f2, f3, f4, f5⟩ := hf it (by simp)
    have hl := rv.length
    have D := Draws.tuple (prog := X.prog) (w := X.w) (A := X.A.in1) (I.ok.hd hc) it a hae its.toArray
    have en : i = its.toArray.size := by
      simp
      omega
    subst en
    exact wpAny_pyNext_enum_endD D he ⟨hit, p⟩ fun h' eb => ⟨rfl, I.turned (t' := s.toks) (fun b o hb q => eb b o hb q) f0 f1 f3 f4 f5⟩
  self := fun A i s Q E st h => let ⟨⟨_, he⟩, _⟩ := st; wpAny_pyIter_enum he h
/-- enumerate of a list or a tuple -/
def iEnumA (K : PySem.W.Frag) (ta : TA) : TI := fun σ H R => ta σ H fun vs H1 => ∃ a, vs = [.ref a] ∧ (((∃ xs, SqL K H1 a xs) ∧ R (Ite K a) H1) ∨ ((∃ xs, SqT K H1 a xs) ∧ R (IteT K a) H1))
theorem pi_enumA {tpos : Pos} {elts : List Expr} {kk : Nat} (hg : Gl X "enumerate") (hm : X.mg "enumerate" = none) (ha : PA X [e] t) (hs : starEach [e] X.env = [(false, eval e X.env)] := by rfl) :
    PI X (.Tuple elts kk tpos) (.Call (.Name "enumerate" p) [e] [] pos) (iEnumA X.K t) := by
  refine ⟨fun pins s σ H R I h => ?_⟩
  refine Call_ (ld_blt I hg hm boot_enumerate (PyProof.Rows.callWith_type1 (thn (ha.run pos pins s σ H _ I h) fun us s1 ⟨vs, H1, I1, r1, q1⟩ => ?_) hs rfl))
  obtain ⟨a, ex, q1⟩ := q1
  subst ex
  cases r1 with
  | cons r rr =>
    cases rr
    cases r
    rcases q1 with ⟨⟨xs, hq⟩, q⟩ | ⟨⟨xs, hq⟩, q⟩
    · obtain ⟨its, rv, p', hz⟩ := I1.list hq
      refine call_enumerate_list p'.isList fun h' he hit hsz hk => wpAny_pyIter_enum he ?_
      have I2 : Inv X pins σ H1 { s1 with heap := h' } := I1.kept (t' := s1.toks) hk
      refine ⟨s1.heap.objs.size + 1, [s1.heap.objs.size + 1, s1.heap.objs.size], _, _, H1, rfl, I2, turn_enum a (s1.heap.objs.size + 1) s1.heap.objs.size, ⟨⟨.none, he⟩, hit, Nat.succ_ne_self _⟩, fun b hb => ?_, q⟩
      have e' : b = s1.heap.objs.size + 1 ∨ b = s1.heap.objs.size := by simpa using hb
      have hle : s1.heap.objs.size ≤ b := by
        rcases e' with z | z
        · rw [z]; exact Nat.le_add_right _ _
        · rw [z]; exact Nat.le_refl _
      exact I1.fpOk hle (I1.hok.fresh hle)
    · obtain ⟨its, rv, p', hz⟩ := I1.tuple hq
      have hlt : a < s1.heap.objs.size := p'.lt
      refine call_enumerate_tup (show s1.heap.IsTuple a its.toArray from p') fun h' he hit hsz hk => wpAny_pyIter_enum he ?_
      have I2 : Inv X pins σ H1 { s1 with heap := h' } := I1.kept (t' := s1.toks) hk
      refine ⟨s1.heap.objs.size + 1, [s1.heap.objs.size + 1, s1.heap.objs.size], _, _, H1, rfl, I2, turn_enumT a (s1.heap.objs.size + 1) s1.heap.objs.size (Nat.ne_of_lt hlt) (Nat.ne_of_gt (Nat.lt_succ_of_lt hlt)), ⟨⟨.none, he⟩, hit, Nat.succ_ne_self _⟩, fun b hb => ?_, q⟩
      have e' : b = s1.heap.objs.size + 1 ∨ b = s1.heap.objs.size := by simpa using hb
      have hle : s1.heap.objs.size ≤ b := by
        rcases e' with z | z
        · rw [z]; exact Nat.le_add_right _ _
        · rw [z]; exact Nat.le_refl _
      exact I1.fpOk hle (I1.hok.fresh hle)
def enumD (ds : List D) : List D := (List.range ds.length).map fun i => D.tup [.int (i : Nat), ds.getD i .non]
theorem enumD_length (ds : List D) : (enumD ds).length = ds.length := by simp [enumD]
theorem enumD_get {ds : List D} {i : Nat} {d : D} (h : ds[i]? = some d) : (enumD ds)[i]? = some (.tup [.int (i : Nat), d]) := by
  have hi := (List.getElem?_eq_some_iff.mp h).1
  simp [enumD, hi, (List.getElem?_eq_some_iff.mp h).2]
theorem pairF {F1 H1 H2 : Hp} {S1 : MS} (x : FS K F1 S1 H1) {T : Addr} {u v : V} {d1 d2 : D} (hT : H1 T = none) (e2 : H2 = upd H1 T (.tup [u, v])) (r1 : Rep K F1 d1 u) (r2 : Rep K F1 d2 v) : ∃ F2, ExF F1 F2 ∧ FS K F2 S1 H2 ∧ Rep K F2 (.tup [d1, d2]) (.ref T) := by
  subst e2
  have fT := (x.notS hT).2
  have ex : ExF F1 (upd F1 T (.tup [u, v])) := ExF.new fT
  exact ⟨_, ex, x.grow hT, .tup (SqT.of upd_same) (.cons (r1.up ex) (.cons (r2.up ex) .nil))⟩
theorem walkD_el {a : Addr} {vs : List V} {ds : List D} (h : Rd F a (.lst vs)) (r : Reps K F ds vs) : WalkD K F (Ite K a) (enumD ds) noG where
  goes := fun i F' S' H' hi e x _ => by
    rw [enumD_length] at hi
    exact ⟨vs, vs[i]'(by rw [← r.length]; exact hi), .inl (exf_rd x.fr (exf_rd e h)), by simp⟩
  stops := fun F' S' H' e x _ => ⟨vs, .inl (exf_rd x.fr (exf_rd e h)), by rw [enumD_length, r.length]; exact Nat.le_refl _⟩
  yields := fun i F' S' H' v H2 hi e x _ y => by
    rw [enumD_length] at hi
    obtain ⟨T, u, rfl, hT, eH, y⟩ := y
    obtain ⟨u', hu, ru⟩ := r.get (List.getElem?_eq_getElem hi)
    have := y vs (.inl (exf_rd x.fr (exf_rd e h)))
    rw [hu] at this
    cases this
    obtain ⟨F2, h1, h2, h3⟩ := pairF x hT eH (.int (i : Nat)) (ru.up e)
    exact ⟨_, F2, enumD_get (List.getElem?_eq_getElem hi), h1, h2, h3⟩
theorem walkD_et {a : Addr} {vs : List V} {ds : List D} (h : SqT K F a vs) (r : Reps K F ds vs) : WalkD K F (IteT K a) (enumD ds) noG where
  goes := fun i F' S' H' hi e x _ => by
    rw [enumD_length] at hi
    exact ⟨vs, vs[i]'(by rw [← r.length]; exact hi), exf_t x.fr (exf_t e h), by simp⟩
  stops := fun F' S' H' e x _ => ⟨vs, exf_t x.fr (exf_t e h), by rw [enumD_length, r.length]⟩
  yields := fun i F' S' H' v H2 hi e x _ y => by
    rw [enumD_length] at hi
    obtain ⟨T, u, rfl, hT, eH, y⟩ := y
    obtain ⟨u', hu, ru⟩ := r.get (List.getElem?_eq_getElem hi)
    have := y vs (exf_t x.fr (exf_t e h))
    rw [hu] at this
    cases this
    obtain ⟨F2, h1, h2, h3⟩ := pairF x hT eH (.int (i : Nat)) (ru.up e)
    exact ⟨_, F2, enumD_get (List.getElem?_eq_getElem hi), h1, h2, h3⟩
theorem walkD_em {a : Addr} {ds : List D} : WalkD K F (Ite K a) (enumD ds) (fun S' => S' a = some (.lst ds)) where
  goes := fun i F' S' H' hi e x g => by
    rw [enumD_length] at hi
    obtain ⟨_, vs, hv, r⟩ := x.st a _ g
    exact ⟨vs, vs[i]'(by rw [← r.length]; exact hi), SqL.of hv, by simp⟩
  stops := fun F' S' H' e x g => by
    obtain ⟨_, vs, hv, r⟩ := x.st a _ g
    exact ⟨vs, SqL.of hv, by rw [enumD_length, r.length]; exact Nat.le_refl _⟩
  yields := fun i F' S' H' v H2 hi e x g y => by
    rw [enumD_length] at hi
    obtain ⟨T, u, rfl, hT, eH, y⟩ := y
    obtain ⟨_, vs, hv, r⟩ := x.st a _ g
    obtain ⟨u', hu, ru⟩ := r.get (List.getElem?_eq_getElem hi)
    have := y vs (SqL.of hv)
    rw [hu] at this
    cases this
    obtain ⟨F2, h1, h2, h3⟩ := pairF x hT eH (.int (i : Nat)) ru
    exact ⟨_, F2, enumD_get (List.getElem?_eq_getElem hi), h1, h2, h3⟩
def wiEnum (wr : WA) : WI := fun ρ S Q => wr ρ S fun xs ρ1 S1 => match xs with
  | [x] => (match itemsOf S1 x with
    | some (ds, g) => Q (enumD ds) g ρ1 S1
    | none => False)
  | _ => False
theorem ri_enum (h : RA K L t wr) : RI K L (iEnumA K t) (wiEnum wr) := by
  intro F ρ S σ H Q R m q k
  refine h F ρ S σ H _ _ m q fun vs H1 xs ρ1 S1 F1 e1 m1 rs q1 => ?_
  cases rs with
  | nil => exact q1.elim
  | cons r1 r2 =>
    cases r2 with
    | cons _ _ => exact q1.elim
    | nil =>
      cases r1 with
      | lst h1 h2 => exact ⟨_, rfl, .inl ⟨⟨_, .inl (exf_rd m1.fs.fr h1)⟩, k _ H1 _ _ ρ1 S1 F1 e1 m1 (walkD_el h1 h2) q1⟩⟩
      | tup h1 h2 => exact ⟨_, rfl, .inr ⟨⟨_, exf_t m1.fs.fr h1⟩, k _ H1 _ _ ρ1 S1 F1 e1 m1 (walkD_et h1 h2) q1⟩⟩
      | ref a =>
        have q1 : match (match S1 a with
          | some (.lst ds) => some (ds, fun S' : MS => S' a = some (.lst ds))
          | _ => none) with
          | some (ds, g) => Q (enumD ds) g ρ1 S1
          | none => False := q1
        cases e : S1 a with
        | none => rw [e] at q1; exact q1.elim
        | some m =>
          rw [e] at q1
          cases m <;> first | exact q1.elim | skip
          obtain ⟨_, vs, hv, r⟩ := m1.fs.st a _ e
          exact ⟨_, rfl, .inl ⟨⟨vs, SqL.of hv⟩, k _ H1 _ _ ρ1 S1 F1 e1 m1 walkD_em q1⟩⟩
      | non => exact q1.elim
      | bl b => exact q1.elim
      | int i => exact q1.elim
      | str s => exact q1.elim
      | dic _ _ _ => exact q1.elim
      | obj _ _ _ => exact q1.elim
theorem di_enum {tpos : Pos} {elts : List Expr} {kk : Nat} (hg : Gl X "enumerate") (hm : X.mg "enumerate" = none) (ha : DA X L [e] t wr) (hs : starEach [e] X.env = [(false, eval e X.env)] := by rfl) :
    DI X L (.Tuple elts kk tpos) (.Call (.Name "enumerate" p) [e] [] pos) (iEnumA X.K t) (wiEnum wr) := ⟨pi_enumA hg hm ha.pa hs, ri_enum ha.ra⟩
/-- zip of two lists, of two tuples -/
def zipD (xs ys : List D) : List D := (List.range (min xs.length ys.length)).map fun i => D.tup [xs.getD i .non, ys.getD i .non]
theorem zipD_length (xs ys : List D) : (zipD xs ys).length = min xs.length ys.length := by simp [zipD]
theorem zipD_get {xs ys : List D} {i : Nat} {d e : D} (h : xs[i]? = some d) (h2 : ys[i]? = some e) : (zipD xs ys)[i]? = some (.tup [d, e]) := by
  have hi := (List.getElem?_eq_some_iff.mp h).1
  have hj := (List.getElem?_eq_some_iff.mp h2).1
  have : i < min xs.length ys.length := by omega
  simp [zipD, this, List.getD, h, h2]
theorem walkD_zl {a b : Addr} {vs us : List V} {ds es : List D} (h : Rd F a (.lst vs)) (r : Reps K F ds vs) (h' : Rd F b (.lst us)) (r' : Reps K F es us) : WalkD K F (Itz K a b) (zipD ds es) noG where
  goes := fun i F' S' H' hi e x _ => by
    rw [zipD_length] at hi
    have l1 := r.length
    have l2 := r'.length
    exact ⟨vs, us, vs[i]'(by omega), us[i]'(by omega), .inl (exf_rd x.fr (exf_rd e h)), .inl (exf_rd x.fr (exf_rd e h')), by simp, by simp⟩
  stops := fun F' S' H' e x _ => ⟨vs, us, .inl (exf_rd x.fr (exf_rd e h)), .inl (exf_rd x.fr (exf_rd e h')), by
    rw [zipD_length, r.length, r'.length]
    omega⟩
  yields := fun i F' S' H' v H2 hi e x _ y => by
    rw [zipD_length] at hi
    obtain ⟨T, u, w, rfl, hT, eH, y1, y2⟩ := y
    have hi1 : i < ds.length := by omega
    have hi2 : i < es.length := by omega
    obtain ⟨u', hu, ru⟩ := r.get (List.getElem?_eq_getElem hi1)
    obtain ⟨w', hw, rw'⟩ := r'.get (List.getElem?_eq_getElem hi2)
    have z1 := y1 vs (.inl (exf_rd x.fr (exf_rd e h)))
    rw [hu] at z1
    cases z1
    have z2 := y2 us (.inl (exf_rd x.fr (exf_rd e h')))
    rw [hw] at z2
    cases z2
    obtain ⟨F2, h1, h2, h3⟩ := pairF x hT eH (ru.up e) (rw'.up e)
    exact ⟨_, F2, zipD_get (List.getElem?_eq_getElem hi1) (List.getElem?_eq_getElem hi2), h1, h2, h3⟩
theorem walkD_zt {a b : Addr} {vs us : List V} {ds es : List D} (h : SqT K F a vs) (r : Reps K F ds vs) (h' : SqT K F b us) (r' : Reps K F es us) : WalkD K F (RZ.ItzT K a b) (zipD ds es) noG where
  goes := fun i F' S' H' hi e x _ => by
    rw [zipD_length] at hi
    have l1 := r.length
    have l2 := r'.length
    exact ⟨vs, us, vs[i]'(by omega), us[i]'(by omega), exf_t x.fr (exf_t e h), exf_t x.fr (exf_t e h'), by simp, by simp⟩
  stops := fun F' S' H' e x _ => ⟨vs, us, exf_t x.fr (exf_t e h), exf_t x.fr (exf_t e h'), by
    rw [zipD_length, r.length, r'.length]
    omega⟩
  yields := fun i F' S' H' v H2 hi e x _ y => by
    rw [zipD_length] at hi
    obtain ⟨T, u, w, rfl, hT, eH, y1, y2⟩ := y
    have hi1 : i < ds.length := by omega
    have hi2 : i < es.length := by omega
    obtain ⟨u', hu, ru⟩ := r.get (List.getElem?_eq_getElem hi1)
    obtain ⟨w', hw, rw'⟩ := r'.get (List.getElem?_eq_getElem hi2)
    have z1 := y1 vs (exf_t x.fr (exf_t e h))
    rw [hu] at z1
    cases z1
    have z2 := y2 us (exf_t x.fr (exf_t e h'))
    rw [hw] at z2
    cases z2
    obtain ⟨F2, h1, h2, h3⟩ := pairF x hT eH (ru.up e) (rw'.up e)
    exact ⟨_, F2, zipD_get (List.getElem?_eq_getElem hi1) (List.getElem?_eq_getElem hi2), h1, h2, h3⟩
def wiZip (wr : WA) : WI := fun ρ S Q => wr ρ S fun xs ρ1 S1 => match xs with
  | [.lst ds, .lst es] => Q (zipD ds es) noG ρ1 S1
  | [.tup ds, .tup es] => Q (zipD ds es) noG ρ1 S1
  | _ => False
theorem ri_zip (h : RA K L t wr) : RI K L (RZ.iZipA K t) (wiZip wr) := by
  intro F ρ S σ H Q R m q k
  refine h F ρ S σ H _ _ m q fun vs H1 xs ρ1 S1 F1 e1 m1 rs q1 => ?_
  cases rs with
  | nil => exact q1.elim
  | cons r1 r2 =>
    cases r2 with
    | nil => cases r1 <;> exact q1.elim
    | cons r2 r3 =>
      cases r3 with
      | cons _ _ => cases r1 <;> cases r2 <;> exact q1.elim
      | nil =>
        cases r1 <;> cases r2 <;> first | exact q1.elim | skip
        · rename_i h1 h2 _ _ _ h3 h4
          exact ⟨_, _, _, _, rfl, .inr ⟨exf_t m1.fs.fr h1, exf_t m1.fs.fr h3, k _ H1 _ _ ρ1 S1 F1 e1 m1 (walkD_zt h1 h2 h3 h4) q1⟩⟩
        · rename_i h1 h2 _ _ _ h3 h4
          exact ⟨_, _, _, _, rfl, .inl ⟨.inl (exf_rd m1.fs.fr h1), .inl (exf_rd m1.fs.fr h3), k _ H1 _ _ ρ1 S1 F1 e1 m1 (walkD_zl h1 h2 h3 h4) q1⟩⟩
theorem di_zip {e2 : Expr} {tpos : Pos} {elts : List Expr} {kk : Nat} (hg : Gl X "zip") (hm : X.mg "zip" = none) (ha : DA X L [e, e2] t wr)
    (hs : starEach [e, e2] X.env = (false, eval e X.env) :: starEach [e2] X.env := by rfl) (hpl : (backTo pos (starEach [e2] X.env)).any (·.1) = false := by rfl) :
    DI X L (.Tuple elts kk tpos) (.Call (.Name "zip" p) [e, e2] [] pos) (RZ.iZipA X.K t) (wiZip wr) := ⟨RZ.pi_zipA hg hm ha.pa hs hpl, ri_zip ha.ra⟩
end
end DL
/-! DL9: reading a reading; loops and comprehensions by rules; things known by what stays true of them. -/
namespace DL
open PySem PySem.Spec PyProof.Rows L2
theorem ex_bl_iff {b : Bool} {p : Bool → Prop} : (∃ c, D.bl b = .bl c ∧ p c) ↔ p b := ⟨fun ⟨c, e, h⟩ => by cases e; exact h, fun h => ⟨b, rfl, h⟩⟩
theorem ex_int_iff {b : Int} {p : Int → Prop} : (∃ c, D.int b = .int c ∧ p c) ↔ p b := ⟨fun ⟨c, e, h⟩ => by cases e; exact h, fun h => ⟨b, rfl, h⟩⟩
theorem ex_int1_iff {b : Int} {p : Int → Prop} : (∃ c, [D.int b] = [.int c] ∧ p c) ↔ p b := ⟨fun ⟨c, e, h⟩ => by cases e; exact h, fun h => ⟨b, rfl, h⟩⟩
theorem ex_int2_iff {a b : Int} {p : Int → Int → Prop} : (∃ c d, [D.int a, D.int b] = [.int c, .int d] ∧ p c d) ↔ p a b := ⟨fun ⟨c, d, e, h⟩ => by cases e; exact h, fun h => ⟨a, b, rfl, h⟩⟩
theorem ex_pair_iff {a b : D} {p : D → D → Prop} : (∃ x y, [a, b] = [x, y] ∧ p x y) ↔ p a b := ⟨fun ⟨x, y, e, h⟩ => by cases e; exact h, fun h => ⟨a, b, rfl, h⟩⟩
theorem ex_tup_iff {b : List D} {p : List D → Prop} : (∃ c, D.tup b = .tup c ∧ p c) ↔ p b := ⟨fun ⟨c, e, h⟩ => by cases e; exact h, fun h => ⟨b, rfl, h⟩⟩
theorem rd_non {S : MS} : rd S .non = .non := rfl
theorem rd_bl {S : MS} {b : Bool} : rd S (.bl b) = .bl b := rfl
theorem rd_int {S : MS} {b : Int} : rd S (.int b) = .int b := rfl
theorem rd_str {S : MS} {b : Str} : rd S (.str b) = .str b := rfl
theorem rd_tup {S : MS} {b : List D} : rd S (.tup b) = .tup b := rfl
theorem rd_lst {S : MS} {b : List D} : rd S (.lst b) = .lst b := rfl
theorem rd_dic {S : MS} {k : List Key} {b : List D} : rd S (.dic k b) = .dic k b := rfl
theorem rd_obj {S : MS} {C : Addr} {k : List Str} {b : List D} : rd S (.obj C k b) = .obj C k b := rfl
theorem rd_ref {S : MS} {a : Addr} {ds : List D} (h : S a = some (.lst ds)) : rd S (.ref a) = .lst ds := by
  show rdM a (S a) = _
  rw [h]
  rfl
/-- what is no instance and no address is as it is -/
theorem rd_pl {S : MS} {d : D} (h : plD d = true) : rd S d = d := by cases d <;> first | rfl | exact absurd h Bool.false_ne_true
theorem outK.mk {Q : KV2} {d : D} {S S' : MS} (s : Sub S S') (q : Q d S) : outK Q d S' := ⟨S, s, q⟩
theorem outK.same {Q : KV2} {d : D} {S : MS} (q : Q d S) : outK Q d S := ⟨S, Sub.refl S, q⟩
theorem newL_f {xs : List D} {S : MS} {Q : KV2} : newL false xs S Q ↔ Q (.lst xs) S := by simp [newL]
theorem newL_t {xs : List D} {S : MS} {Q : KV2} : newL true xs S Q ↔ ∀ a, S a = none → Q (.ref a) (S.set a (.lst xs)) := by simp [newL]
mutual
def pu : D → Bool
  | .obj _ _ _ => false
  | .ref _ => false
  | .tup ds => pus ds
  | .lst ds => pus ds
  | .dic _ ds => pus ds
  | _ => true
def pus : List D → Bool
  | [] => true
  | d :: ds => pu d && pus ds
end
theorem pl_of_pu {d : D} (h : pu d = true) : plD d = true := by cases d <;> first | rfl | simp [pu] at h
theorem pus_iff : ∀ {ds : List D}, pus ds = true ↔ ∀ d ∈ ds, pu d = true
  | [] => by simp [pus]
  | d :: ds => by simp [pus, pus_iff (ds := ds)]
theorem pus_append {xs ys : List D} : pus (xs ++ ys) = (pus xs && pus ys) := by
  induction xs with
  | nil => simp [pus]
  | cons x xs ih => simp [pus, ih, Bool.and_assoc]
/-! ### loops -/
theorem forW_inv {g : MS → Prop} {wg : WG} {wb : WS} {De : DEnds} (I : List D → List D → Rho → MS → Prop) (hg : ∀ dn td ρ S, I dn td ρ S → g S)
    (hs : ∀ dn d td ρ S, I dn (d :: td) ρ S → ∀ N : Rho → MS → Prop, (∀ ρ' S', I (dn ++ [d]) td ρ' S' → N ρ' S') → wg d ρ S fun ρ1 S1 => wb { De with nx := N, ct := N, bk := De.nx } ρ1 S1)
    (hd : ∀ dn ρ S, I dn [] ρ S → De.nx ρ S) : ∀ (td dn : List D) (ρ : Rho) (S : MS), I dn td ρ S → forW g wg wb De td ρ S
  | [], dn, ρ, S, h => ⟨hg dn [] ρ S h, hd dn ρ S h⟩
  | d :: td, dn, ρ, S, h => ⟨hg dn _ ρ S h, hs dn d td ρ S h _ fun ρ' S' h' => forW_inv I hg hs hd td (dn ++ [d]) ρ' S' h'⟩
/-- by turns: I at (number of the turn, state) -/
theorem forW_n {g : MS → Prop} {wg : WG} {wb : WS} {De : DEnds} {ds : List D} (I : Nat → Rho → MS → Prop) (hg : ∀ i ρ S, I i ρ S → g S)
    (hs : ∀ i d ρ S, ds[i]? = some d → I i ρ S → ∀ N : Rho → MS → Prop, (∀ ρ' S', I (i + 1) ρ' S' → N ρ' S') → wg d ρ S fun ρ1 S1 => wb { De with nx := N, ct := N, bk := De.nx } ρ1 S1)
    (hd : ∀ ρ S, I ds.length ρ S → De.nx ρ S) {ρ : Rho} {S : MS} (h : I 0 ρ S) : forW g wg wb De ds ρ S := by
  refine forW_inv (fun dn td ρ S => dn ++ td = ds ∧ I dn.length ρ S) (fun _ _ ρ S ⟨_, h⟩ => hg _ ρ S h) (fun dn d td ρ S ⟨e, h⟩ N hN => ?hs) (fun dn ρ S ⟨e, h⟩ => ?hd) ds [] ρ S ⟨rfl, h⟩
  case hs =>
    refine hs dn.length d ρ S (by rw [← e]; simp) h N fun ρ' S' h' => hN ρ' S' ⟨by rw [← e]; simp, ?_⟩
    rw [List.length_append, List.length_singleton]
    exact h'
  case hd =>
    rw [List.append_nil] at e
    subst e
    exact hd ρ S h
/-! ### comprehensions whose turns change nothing -/
theorem compL_inv {a : Addr} {g : MS → Prop} {wg : WG} {wt : WT} {we : WE} {ρ0 : Rho} {S0 : MS} {Q : MS → Prop} (ha : S0 a = none) (I : List D → List D → List D → Prop) (hg : ∀ S, Sub S0 S → g S)
    (hs : ∀ dn d td acc, I dn (d :: td) acc → ∀ (N : D → MS → Prop) (M : MS → Prop), (∀ x S', S' = S0.set a (.lst acc) → acc.length < sizeLine → I (dn ++ [d]) td (acc ++ [x]) → N x S') → (∀ S', S' = S0.set a (.lst acc) → I (dn ++ [d]) td acc → M S') →
      wg d ρ0 (S0.set a (.lst acc)) fun ρ1 S1 => wt ρ1 S1 fun b ρ2 S2 => if b = true then we ρ2 S2 fun x _ S3 => N x S3 else M S2)
    (hz : ∀ dn td acc, I dn td acc → td ≠ [] → acc.length < sizeLine) (hd : ∀ dn acc, I dn [] acc → Q (S0.set a (.lst acc))) :
    ∀ (td dn acc : List D), I dn td acc → compW a g wg wt we Q ρ0 td (S0.set a (.lst acc))
  | [], dn, acc, h => ⟨hg _ (Sub.set ha), hd dn acc h⟩
  | d :: td, dn, acc, h => ⟨hg _ (Sub.set ha), by
    refine hs dn d td acc h _ _ (fun x S' e hz' hi => ?_) (fun S' e hi => ?_)
    · subst e
      refine ⟨acc, MS.set_same, hz', ?_⟩
      rw [MS.set_set]
      exact compL_inv ha I hg hs hz hd td (dn ++ [d]) (acc ++ [x]) hi
    · subst e
      exact compL_inv ha I hg hs hz hd td (dn ++ [d]) acc hi⟩
/-- the end of a comprehension whose list is not to change -/
theorem endL_f {a : Addr} {S : MS} {ds : List D} {Q : KV2} (h : S a = none) (q : Q (.lst ds) S) : endL false a (S.set a (.lst ds)) Q := ⟨ds, MS.set_same, by
  rw [if_neg Bool.false_ne_true, MS.del_set h]
  exact q⟩
theorem endL_t {a : Addr} {S : MS} {ds : List D} {Q : KV2} (q : Q (.ref a) (S.set a (.lst ds))) : endL true a (S.set a (.lst ds)) Q := ⟨ds, MS.set_same, by
  rw [if_pos rfl]
  exact q⟩
/-- [f x for x in ds] -/
theorem compL_map {g : MS → Prop} {wg : WG} {we : WE} {ρ0 : Rho} {S0 : MS} {Q : KV2} {ds : List D} (f : D → D) (hg : ∀ S, Sub S0 S → g S) (hz : ds.length ≤ sizeLine)
    (hs : ∀ d ∈ ds, ∀ S, Sub S0 S → ∀ N : D → MS → Prop, N (f d) S → wg d ρ0 S fun ρ1 S1 => we ρ1 S1 fun x _ S3 => N x S3) (q : Q (.lst (ds.map f)) S0) :
    ∀ a, S0 a = none → compW a g wg wYes we (fun S2 => endL false a S2 Q) ρ0 ds (S0.set a (.lst [])) := fun a ha => by
  refine compL_inv ha (fun dn td acc => dn ++ td = ds ∧ acc = dn.map f) hg (fun dn d td acc ⟨e, ea⟩ N M hN hM => ?hs) (fun dn td acc ⟨e, ea⟩ hne => ?hz) (fun dn acc ⟨e, ea⟩ => ?hd) ds [] [] ⟨rfl, rfl⟩
  case hs =>
    have hd : d ∈ ds := by rw [← e]; simp
    refine hs d hd _ (Sub.set ha) _ ?_
    refine hN (f d) _ rfl ?_ ⟨by rw [← e]; simp, by rw [ea]; simp⟩
    rw [ea, List.length_map]
    have : ds.length = dn.length + (td.length + 1) := by rw [← e]; simp
    omega
  case hz =>
    rw [ea, List.length_map]
    have h1 : ds.length = dn.length + td.length := by rw [← e]; simp
    have h2 : 0 < td.length := List.length_pos_iff.mpr hne
    omega
  case hd =>
    rw [List.append_nil] at e
    subst e ea
    exact endL_f ha q
/-- the same, a list that may change -/
theorem compL_mapT {g : MS → Prop} {wg : WG} {we : WE} {ρ0 : Rho} {S0 : MS} {Q : KV2} {ds : List D} (f : D → D) (hg : ∀ S, Sub S0 S → g S) (hz : ds.length ≤ sizeLine)
    (hs : ∀ d ∈ ds, ∀ S, Sub S0 S → ∀ N : D → MS → Prop, N (f d) S → wg d ρ0 S fun ρ1 S1 => we ρ1 S1 fun x _ S3 => N x S3) (q : ∀ a, S0 a = none → Q (.ref a) (S0.set a (.lst (ds.map f)))) :
    ∀ a, S0 a = none → compW a g wg wYes we (fun S2 => endL true a S2 Q) ρ0 ds (S0.set a (.lst [])) := fun a ha => by
  refine compL_inv ha (fun dn td acc => dn ++ td = ds ∧ acc = dn.map f) hg (fun dn d td acc ⟨e, ea⟩ N M hN hM => ?hs) (fun dn td acc ⟨e, ea⟩ hne => ?hz) (fun dn acc ⟨e, ea⟩ => ?hd) ds [] [] ⟨rfl, rfl⟩
  case hs =>
    have hd : d ∈ ds := by rw [← e]; simp
    refine hs d hd _ (Sub.set ha) _ ?_
    refine hN (f d) _ rfl ?_ ⟨by rw [← e]; simp, by rw [ea]; simp⟩
    rw [ea, List.length_map]
    have : ds.length = dn.length + (td.length + 1) := by rw [← e]; simp
    omega
  case hz =>
    rw [ea, List.length_map]
    have h1 : ds.length = dn.length + td.length := by rw [← e]; simp
    have h2 : 0 < td.length := List.length_pos_iff.mpr hne
    omega
  case hd =>
    rw [List.append_nil] at e
    subst e ea
    exact endL_t (q a ha)
/-- [f x for x in ds if c x] -/
theorem compL_filter {g : MS → Prop} {wg : WG} {wt : WT} {we : WE} {ρ0 : Rho} {S0 : MS} {Q : KV2} {ds : List D} (f : D → D) (c : D → Bool) (hg : ∀ S, Sub S0 S → g S) (hz : ds.length ≤ sizeLine)
    (hs : ∀ d ∈ ds, ∀ S, Sub S0 S → ∀ (N : D → MS → Prop) (M : MS → Prop), (c d = true → N (f d) S) → (c d = false → M S) → wg d ρ0 S fun ρ1 S1 => wt ρ1 S1 fun b ρ2 S2 => if b = true then we ρ2 S2 fun x _ S3 => N x S3 else M S2) (q : Q (.lst ((ds.filter c).map f)) S0) :
    ∀ a, S0 a = none → compW a g wg wt we (fun S2 => endL false a S2 Q) ρ0 ds (S0.set a (.lst [])) := fun a ha => by
  refine compL_inv ha (fun dn td acc => dn ++ td = ds ∧ acc = (dn.filter c).map f) hg (fun dn d td acc ⟨e, ea⟩ N M hN hM => ?hs) (fun dn td acc ⟨e, ea⟩ hne => ?hz) (fun dn acc ⟨e, ea⟩ => ?hd) ds [] [] ⟨rfl, rfl⟩
  case hs =>
    have hd : d ∈ ds := by rw [← e]; simp
    refine hs d hd _ (Sub.set ha) _ _ (fun hc => ?_) (fun hc => ?_)
    · refine hN (f d) _ rfl ?_ ⟨by rw [← e]; simp, by rw [ea]; simp [hc]⟩
      rw [ea, List.length_map]
      have h1 := List.length_filter_le c dn
      have : ds.length = dn.length + (td.length + 1) := by rw [← e]; simp
      omega
    · exact hM _ rfl ⟨by rw [← e]; simp, by rw [ea]; simp [hc]⟩
  case hz =>
    rw [ea, List.length_map]
    have h0 := List.length_filter_le c dn
    have h1 : ds.length = dn.length + td.length := by rw [← e]; simp
    have h2 : 0 < td.length := List.length_pos_iff.mpr hne
    omega
  case hd =>
    rw [List.append_nil] at e
    subst e ea
    exact endL_f ha q
/-- items of which something is so -/
theorem compL_all {g : MS → Prop} {wg : WG} {we : WE} {ρ0 : Rho} {S0 : MS} {Q : KV2} {ds : List D} (p : D → Prop) (hg : ∀ S, Sub S0 S → g S) (hz : ds.length ≤ sizeLine)
    (hs : ∀ d ∈ ds, ∀ S, Sub S0 S → ∀ N : D → MS → Prop, (∀ x, p x → N x S) → wg d ρ0 S fun ρ1 S1 => we ρ1 S1 fun x _ S3 => N x S3) (q : ∀ xs : List D, xs.length = ds.length → (∀ x ∈ xs, p x) → Q (.lst xs) S0) :
    ∀ a, S0 a = none → compW a g wg wYes we (fun S2 => endL false a S2 Q) ρ0 ds (S0.set a (.lst [])) := fun a ha => by
  refine compL_inv ha (fun dn td acc => dn ++ td = ds ∧ acc.length = dn.length ∧ ∀ x ∈ acc, p x) hg (fun dn d td acc ⟨e, ea, hp⟩ N M hN hM => ?hs) (fun dn td acc ⟨e, ea, _⟩ hne => ?hz) (fun dn acc ⟨e, ea, hp⟩ => ?hd) ds [] [] ⟨rfl, rfl, fun _ h => nomatch h⟩
  case hs =>
    have hd : d ∈ ds := by rw [← e]; simp
    refine hs d hd _ (Sub.set ha) _ fun x hx => ?_
    refine hN x _ rfl ?_ ⟨by rw [← e]; simp, by simp [ea], fun y hy => ?_⟩
    · have : ds.length = dn.length + (td.length + 1) := by rw [← e]; simp
      omega
    · rcases List.mem_append.mp hy with h | h
      · exact hp y h
      · rw [List.mem_singleton.mp h]
        exact hx
  case hz =>
    have h1 : ds.length = dn.length + td.length := by rw [← e]; simp
    have h2 : 0 < td.length := List.length_pos_iff.mpr hne
    omega
  case hd =>
    rw [List.append_nil] at e
    subst e
    exact endL_f ha (q acc ea hp)
theorem noG_any {S0 : MS} : ∀ S, Sub S0 S → noG S := fun _ _ => trivial
/-! ### two lists, the one within the other, known by what stays true of them -/
def vOf : D → V
  | .int i => .int i
  | .ref a => .ref a
  | _ => .non
theorem reps_vOf {K : PySem.W.Frag} {F : Hp} : ∀ {ds : List D}, (∀ d ∈ ds, (∃ i, d = D.int i) ∨ ∃ a, d = D.ref a) → Reps K F ds (ds.map vOf)
  | [], _ => .nil
  | d :: ds, h => by
    refine .cons ?_ (reps_vOf fun x hx => h x (List.mem_cons_of_mem _ hx))
    rcases h d List.mem_cons_self with ⟨i, rfl⟩ | ⟨a, rfl⟩
    · exact .int i
    · exact .ref a
theorem vOf_reps {K : PySem.W.Frag} {F : Hp} : ∀ {ds : List D} {vs : List V}, (∀ d ∈ ds, (∃ i, d = D.int i) ∨ ∃ a, d = D.ref a) → Reps K F ds vs → vs = ds.map vOf
  | [], _, _, r => by cases r; rfl
  | d :: ds, _, h, r => by
    cases r with
    | cons r1 r2 =>
      rw [vOf_reps (fun x hx => h x (List.mem_cons_of_mem _ hx)) r2]
      rcases h d List.mem_cons_self with ⟨i, rfl⟩ | ⟨a, rfl⟩
      · cases r1
        rfl
      · cases r1
        rfl
def opq2 (J : List D → List Int → Addr → Prop) : Hp → Addr → List Addr → Prop := fun H a own => ∃ c ds cells, own = [c] ∧ H a = some (.lst (ds.map vOf)) ∧ H c = some (.lst (cells.map V.int)) ∧ J ds cells c
section
variable {K : PySem.W.Frag} {F F' : Hp} {S : MS} {H H' : Hp} {J : List D → List Int → Addr → Prop} {t : Addr}
def IntRef (J : List D → List Int → Addr → Prop) : Prop := ∀ ds cells c, J ds cells c → ∀ d ∈ ds, (∃ i, d = D.int i) ∨ ∃ a, d = D.ref a
def opened (S : MS) (t c : Addr) (ds : List D) (cells : List Int) : MS := (S.set t (.lst ds)).set c (.lst (cells.map D.int))
theorem FS.open2 (x : FS K F S H) (h : S t = some (.opq (opq2 J))) (hJ : IntRef J) : ∃ c ds cells, J ds cells c ∧ S c = none ∧ c ≠ t ∧ FS K F (opened S t c ds cells) H := by
  obtain ⟨ft, own, ho, hs, hf⟩ := x.st t _ h
  obtain ⟨c, ds, cells, rfl, e1, e2, j⟩ := hf H fun _ _ => rfl
  obtain ⟨fc, sc, ct, _⟩ := ho c (List.mem_singleton.mpr rfl)
  refine ⟨c, ds, cells, j, sc, ct, x.fr, fun a m e => ?_, fun a b u v h1 h2 h3 h4 => ?_⟩
  · unfold opened at e
    by_cases ha : a = c
    · subst ha
      rw [MS.set_same] at e
      cases e
      exact ⟨fc, _, e2, .of_ints cells⟩
    · rw [MS.set_ne ha] at e
      by_cases hb : a = t
      · subst hb
        rw [MS.set_same] at e
        cases e
        exact ⟨ft, _, e1, reps_vOf (hJ ds cells c j)⟩
      · rw [MS.set_ne hb] at e
        obtain ⟨f, k⟩ := x.st a m e
        cases m with
        | opq φ => exact absurd (x.one a t _ _ e h rfl rfl) hb
        | lst ds => exact ⟨f, k⟩
        | dic ks ds => exact ⟨f, k⟩
        | ins C ns ds => exact ⟨f, k⟩
  · unfold opened at h1 h2
    have nc : ∀ {a m}, ((S.set t (.lst ds)).set c (.lst (cells.map D.int))) a = some m → isOpq m = true → S a = some m := fun {a m} e o => by
      by_cases ha : a = c
      · subst ha
        rw [MS.set_same] at e
        cases e
        cases o
      · rw [MS.set_ne ha] at e
        by_cases hb : a = t
        · subst hb
          rw [MS.set_same] at e
          cases e
          cases o
        · rw [MS.set_ne hb] at e
          exact e
    exact x.one a b u v (nc h1 h3) (nc h2 h4) h3 h4
theorem FS.close2 {c : Addr} {ds : List D} {cells : List Int} (x : FS K F (opened S t c ds cells) H) (one : ∀ a b m n, S a = some m → S b = some n → isOpq m = true → isOpq n = true → a = b) (h : S t = some (.opq (opq2 J))) (hJ : IntRef J) (sc : S c = none) (ct : c ≠ t) (j : J ds cells c) : FS K F S H := by
  unfold opened at x
  have st1 : ((S.set t (.lst ds)).set c (.lst (cells.map D.int))) t = some (.lst ds) := by rw [MS.set_ne (Ne.symm ct), MS.set_same]
  obtain ⟨ft, us, hu, ru⟩ := x.st t _ st1
  obtain ⟨fc, ws, hw, rw'⟩ := x.st c _ MS.set_same
  have eu := vOf_reps (hJ ds cells c j) ru
  have ew := rw'.ints
  subst eu ew
  refine ⟨x.fr, fun a m e => ?_, one⟩
  by_cases ha : a = t
  · subst ha
    rw [h] at e
    cases e
    refine ⟨ft, [c], fun d hd => ?_, by rw [hu]; rfl, fun H' hH => ?_⟩
    · rw [List.mem_singleton.mp hd]
      exact ⟨fc, sc, ct, by rw [hw]; rfl⟩
    · exact ⟨c, ds, cells, rfl, by rw [hH a (.inl rfl)]; exact hu, by rw [hH c (.inr (List.mem_singleton.mpr rfl))]; exact hw, j⟩
  · have hac : a ≠ c := fun z => by
      rw [z, sc] at e
      cases e
    have e2 : ((S.set t (.lst ds)).set c (.lst (cells.map D.int))) a = some m := by rw [MS.set_ne hac, MS.set_ne ha]; exact e
    obtain ⟨f, k⟩ := x.st a m e2
    refine ⟨f, mok_move k (ExF.refl F) rfl fun b h1 h2 h3 h4 => ⟨h1, ?_, rfl⟩⟩
    have hbc : b ≠ c := fun z => by
      rw [z, MS.set_same] at h2
      cases h2
    rw [MS.set_ne hbc] at h2
    have hbt : b ≠ t := fun z => by
      rw [z, MS.set_same] at h2
      cases h2
    rw [MS.set_ne hbt] at h2
    exact h2
/-- made anew -/
theorem FS.made2 {c : Addr} {ds : List D} {cells : List Int} (x : FS K F (opened S t c ds cells) H) (no : ∀ a m, S a = some m → isOpq m = false) (hJ : IntRef J) (st : S t = none) (sc : S c = none) (ct : c ≠ t) (j : J ds cells c) : FS K F (S.set t (.opq (opq2 J))) H := by
  have e : opened (S.set t (.opq (opq2 J))) t c ds cells = opened S t c ds cells := by
    unfold opened
    rw [MS.set_set]
  rw [← e] at x
  refine x.close2 (fun a b m n h1 h2 h3 h4 => ?_) MS.set_same hJ (by rw [MS.set_ne ct]; exact sc) ct j
  have key : ∀ {a m}, (S.set t (.opq (opq2 J))) a = some m → isOpq m = true → a = t := fun {a m} h o => by
    by_cases ha : a = t
    · exact ha
    · rw [MS.set_ne ha] at h
      rw [no a m h] at o
      cases o
  rw [key h1 h3, key h2 h4]
end
/-- a draw: a number below a limit, all else as it was -/
def drawSp (J : List D → List Int → Addr → Prop) : DSp := fun ds S Q _ => ∃ t n, ds = [.ref t, .int n] ∧ S t = some (.opq (opq2 J)) ∧ (0 < n ∧ n < 1000000000) ∧ ∀ i : Int, 0 ≤ i → i < n → Q (.int i) S
/-- the same over what the thing holds -/
def drawSpO (J : List D → List Int → Addr → Prop) : DSp := fun ds S' Q _ => ∃ S t c n xs cells, ds = [.ref t, .int n] ∧ S' = opened S t c xs cells ∧ J xs cells c ∧ S c = none ∧ c ≠ t ∧ (0 < n ∧ n < 1000000000) ∧
  ∀ (i : Int) xs' cells', 0 ≤ i → i < n → J xs' cells' c → Q (.int i) (opened S t c xs' cells')
theorem draw_of {P : Program} {w : World} {K : PySem.W.Frag} {mg : Str → Option Value} {base : Heap} {CX : CXT} {k : Nat} {x : Str} {ps : List Str} {J : List D → List Int → Addr → Prop} (hJ : IntRef J) (h : Def P w K mg base CX k x ps (drawSpO J)) : Def P w K mg base CX k x ps (drawSp J) := by
  obtain ⟨f, fd, F, r⟩ := h.ex
  refine ⟨f, fd, F.imp fun vs H Q E q => ?_, r⟩
  obtain ⟨ds, F0, S, Qd, Ed, fs, rr, ⟨t, n, rfl, hs, hn, hq⟩, kq, ke⟩ := q
  obtain ⟨c, xs, cells, j, sc, ct, fs2⟩ := fs.open2 hs hJ
  refine ⟨_, F0, opened S t c xs cells, fun d S2 => ∃ i xs' cells', d = .int i ∧ 0 ≤ i ∧ i < n ∧ J xs' cells' c ∧ S2 = opened S t c xs' cells', Ed, fs2, rr, ⟨S, t, c, n, xs, cells, rfl, rfl, j, sc, ct, hn, fun i xs' cells' h1 h2 h3 => ⟨i, xs', cells', rfl, h1, h2, h3, rfl⟩⟩, ?_, ke⟩
  rintro v H' d F' S' ex fs' rv ⟨i, xs', cells', rfl, h1, h2, h3, rfl⟩
  exact kq v H' _ F' S ex (fs'.close2 fs.one hs hJ sc ct h3) rv (hq i h1 h2)
end DL
/-! DL10: x[::-1], {}, sorted of lists and tuples. -/
namespace DL
open PySem PySem.Spec PyProof.Rows L2
section
variable {prog : Program} {w : World} {A : Around} {E : Value → Shared → Prop} {s : Shared}
theorem collect_sq {Q : List Value → Shared → Prop} (it : Addr) {T : String} {o : Obj} {items : Array Value} {n : Nat} (hT : T = "list" ∨ T = "tuple")
    (ho : s.heap.get? it = some o) (hc : o.cls = .type T) (hd : o.data = .seq items n)
    (hQ : ∀ h', (∀ b o', s.heap.get? b = some o' → h'.get? b = some o') → s.heap.objs.size ≤ h'.objs.size → Q items.toList { s with heap := h' }) (hsz : items.size ≤ sizeLine) :
    wpAny (model prog w) A (collect (.ref it)) Q E s := by
  unfold collect
  refine wpAny_bind (wpAny_runValue (codeAny_builtin F.entry_proto_collect ?_))
  rw [Around.under_plainId F.plain_proto_collect _]
  show wpAny _ A.in1 (newList [] >>= fun l => again (.builtin "list.__iadd__" ⟨[l, .ref it], []⟩)) _ _ s
  refine wpAny_bind (wpAny_newObj_type ?_)
  refine wpAny_pure ⟨plainId_quiet F.plain_list_iadd _, codeAny_builtin F.entry_list_iadd ?_⟩
  rw [Around.under_plainId F.plain_list_iadd _]
  show wpAny _ A.in1 (Builtin.List.listExtendWith (.ref s.heap.objs.size) (.ref it) (.ref s.heap.objs.size)) _ _ _
  have hS : (s.heap.push { cls := .type "list", data := .seq ([] : List Value).toArray }).get? s.heap.objs.size = some { cls := .type "list", data := .seq #[] 0 } := Heap.get?_push_size _ rfl
  have hS₂ := Heap.get?_update_self (Obj.mapSeq (· ++ items)) hS rfl
  have fin' : wpAny (model prog w) A (match Value.ref s.heap.objs.size with
      | Value.ref a => do
        match (← load a).data with
          | Data.seq xs _ => pure xs.toList
          | _ => unsupported "internal:collect"
      | _ => unsupported "internal:collect") Q E { s with heap := (s.heap.push { cls := .type "list", data := .seq ([] : List Value).toArray }).update s.heap.objs.size (Obj.mapSeq (· ++ items)) } := by
    show wpAny _ A (load s.heap.objs.size >>= _) _ _ _
    refine wpAny_bind (wpAny_load hS₂ ?_)
    refine wpAny_pure ?_
    have e : ((#[] : Array Value) ++ items).toList = items.toList := by simp
    show Q ((#[] : Array Value) ++ items).toList _
    rw [e]
    refine hQ _ (fun b o' hb => ?_) (by rw [Heap.size_update, size_push']; exact Nat.le_succ _)
    exact (Heap.get?_update_other _ _ (Nat.ne_of_gt (Heap.lt_size hb))).trans (Heap.get?_push_of_some _ hb)
  refine wpAny_mono (wpAny_extend_seq (hsz := hsz) (A := A) (R := fun r s' => r = .ok (.ret (.ref s.heap.objs.size)) ∧ s' = { s with heap := (s.heap.push { cls := .type "list", data := .seq ([] : List Value).toArray }).update s.heap.objs.size (Obj.mapSeq (· ++ items)) })
    (s := { s with heap := s.heap.push { cls := .type "list", data := .seq ([] : List Value).toArray } }) _ it _ 0 hT hS (Heap.get?_push_of_some _ ho) hc hd ⟨rfl, rfl⟩) (fun fin s' h => ?_) (fun e s' h => ?_)
  · cases fin with
    | done f =>
      obtain ⟨e, rfl⟩ := h
      cases e
      exact fin'
    | again c' => exact ⟨h.1, codeAny_mono h.2 fun r s'' hr => by obtain ⟨rfl, rfl⟩ := hr; exact fin'⟩
  · exact absurd h.1 (by simp)
/-- sorted of a list or a tuple -/
theorem sorted_sq {it : Addr} {T : String} {o : Obj} {vs : List Value} {n : Nat} {ltv : Value → Value → Bool} {Q : Value → Shared → Prop} (O : SrtO.Swo ltv) (hT : T = "list" ∨ T = "tuple")
    (ho : s.heap.get? it = some o) (hc : o.cls = .type T) (hd : o.data = .seq vs.toArray n) (hz : vs.length ≤ sizeLine)
    (hS : 2 ≤ vs.length → ∀ (h₁ : Heap) (a : Addr), h₁.get? a = some (seqObj "list" vs.toArray 0) → (∀ b o, s.heap.get? b = some o → b ≠ a ∧ h₁.get? b = some o) → SrtO.SortableO prog w A.in1.in1 { s with heap := h₁ } a vs ltv)
    (h : ∀ (out : List Value) (h' : Heap) (a : Addr) (e : Nat), SrtO.Srtd ltv out → SrtO.Stb ltv out vs → s.heap.objs.size ≤ a → (∀ b o, s.heap.get? b = some o → h'.get? b = some o) → h'.get? a = some (seqObj "list" out.toArray e) → Q (.ref a) { s with heap := h' }) :
    wpAny (model prog w) A (call (.builtin "sorted") [.ref it]) Q E s := by
  refine Calls.call_function_entry kind_sorted plain_sorted entry_sorted (args_sorted1 _) ?_
  unfold Builtin.«sorted»
  refine wpAny_bind (m := checkCount "sorted" 1 1 _) (wpAny_pure ?_)
  refine wpAny_bind (collect_sq it hT ho hc hd (fun h1 k1 z1 => ?_) (by rw [List.size_toArray]; exact hz))
  refine wpAny_bind (wpAny_newList ?_ hz)
  have hoL : (h1.push (seqObj "list" vs.toArray 0)).get? h1.objs.size = some (seqObj "list" vs.toArray 0) := Heap.get?_push_size _ rfl
  have keep : ∀ b o, s.heap.get? b = some o → b ≠ h1.objs.size ∧ (h1.push (seqObj "list" vs.toArray 0)).get? b = some o := fun b o q =>
    ⟨Nat.ne_of_lt (Heap.lt_size (k1 b o q)), Heap.get?_push_of_some _ (k1 b o q)⟩
  show wpAny _ _ _ _ _ { s with heap := h1.push (seqObj "list" vs.toArray 0) }
  refine wpAny_bind (wpAny_holding (wpAny_call_entry slot_list_sort ⟨_, hoL, rfl⟩ entry_list_sort (SrtO.list_sort_ord O hoL hz (fun h2 => hS h2 _ _ hoL keep) fun out hs hb => ⟨_, rfl, ?_⟩) (args_list_sort _)))
  obtain ⟨e, he⟩ := sortedHeap_at (vs := vs) (out := out.toArray) hoL
  refine wpAny_pure ⟨_, rfl, h out _ _ e hs hb z1 (fun b o q => ?_) he⟩
  obtain ⟨hb1, hb2⟩ := keep b o q
  exact (PyProof.Rows.sortedHeap_old hb1 (Heap.lt_size hb2)).trans hb2
end
/-- sorted(xs), ints, a list's or a tuple's -/
def rSortedA (K : PySem.W.Frag) : List V → Hp → VK → Prop := fun vs H Q => ∃ (a : Addr) (ns : List Int), vs = [V.ref a] ∧ (SqL K H a (ns.map V.int) ∨ SqT K H a (ns.map V.int)) ∧
  ∀ (ns' : List Int) (p : Addr), ns'.Perm ns → ns'.Pairwise (· ≤ ·) → H p = none → Q (.ref p) (upd H p (.lst (ns'.map V.int)))
section
variable {X : Cx} {K : PySem.W.Frag}
theorem cr_sortedA : CallR X (.builtin "sorted") (rSortedA X.K) := by
  intro pins s σ H vs us Q I r h
  obtain ⟨a, ns, rfl, hs, q⟩ := h
  rw [Vals.ref1 r]
  have key : ∀ (T : String) (its : List Value) (o : Obj) (n : Nat), (T = "list" ∨ T = "tuple") → s.heap.get? a = some o → o.cls = .type T → o.data = .seq its.toArray n → Vals (ns.map V.int) its → (ns.map V.int).length ≤ sizeLine → wpAny (model X.prog X.w) X.A (call (.builtin "sorted") [.ref a]) (EP X pins σ Q) X.xe s := by
    intro T its o n hT ho hc hd rv hz
    have hi := rv.ints
    refine sorted_sq SrtO.swo_int hT ho hc hd (by rw [← rv.length]; exact hz) (fun h2 h₁ a' _ _ => SrtO.ints_sortable hi h2) fun out h' p e h1 h2 sz kp he' => ?_
    obtain ⟨k1, k2, k3⟩ := SrtO.ints_out hi h1 h2
    have hlen : ((out.map SrtO.iv).map V.int).length ≤ sizeLine := by
      rw [List.length_map, k2.length_eq]
      rw [List.length_map] at hz
      exact hz
    exact ⟨.ref _, upd H p (.lst ((out.map SrtO.iv).map V.int)), I.laid (t' := s.toks) kp sz ⟨hlen, out, e, vals_of_ints k1, he'⟩, rfl, q _ _ k2 k3 (I.hok.fresh sz)⟩
  rcases hs with hs | hs
  · obtain ⟨its, rv, hl, hz⟩ := I.list hs
    obtain ⟨o, ho, hc, n, hd⟩ := hl.isList
    exact key "list" its o n (.inl rfl) ho hc hd rv hz
  · obtain ⟨its, rv, ⟨o, ho, hc, n, hd⟩, hz⟩ := I.tuple hs
    exact key "tuple" its o n (.inr rfl) ho hc hd rv hz
def cSortedA (m : Bool) : D → MS → KV2 → Prop
  | .lst ds => fun S Q => ∃ ns : List Int, ds = ns.map D.int ∧ ∀ ns' : List Int, ns'.Perm ns → ns'.Pairwise (· ≤ ·) → newL m (ns'.map D.int) S Q
  | .tup ds => fun S Q => ∃ ns : List Int, ds = ns.map D.int ∧ ∀ ns' : List Int, ns'.Perm ns → ns'.Pairwise (· ≤ ·) → newL m (ns'.map D.int) S Q
  | _ => fun _ _ => False
theorem roc_sortedA (m : Bool) : ROc K (rSortedA K) (w1 (cSortedA m)) := roc1 fun F S H x v Q R fs rx q k => by
  cases x <;> first | exact q.elim | skip
  · obtain ⟨ns, e, q⟩ := q
    subst e
    obtain ⟨a, vs, rfl, h1, h2, h3⟩ := rx
    have e := h2.ints
    subst e
    exact ⟨a, ns, rfl, .inr h1, fun ns' p hp hs hn => newL_ok k fs (.of_ints ns') (q ns' hp hs) hn⟩
  · obtain ⟨ns, e, q⟩ := q
    subst e
    obtain ⟨a, vs, rfl, h1, h2⟩ := rx
    have e := h2.ints
    subst e
    exact ⟨a, ns, rfl, .inl (.inl h1), fun ns' p hp hs hn => newL_ok k fs (.of_ints ns') (q ns' hp hs) hn⟩
end
/-! ### x[::-1] -/
section
variable {prog : Program} {w : World} {A : Around} {E : Value → Shared → Prop} {s : Shared}
theorem sliceApplied_rev {sl : Addr} {t : Tok} {n : Nat} {Q : Int × Int × Nat → Shared → Prop} (hs : s.heap.IsSliceOf sl .none .none (.int (-1) t))
    (h : Q ((n : Int) - 1, -1, n) s) : wpAny (model prog w) A (Builtin.Slice.sliceApplied (.ref sl) (pure (n : Int))) Q E s := by
  obtain ⟨os, hos, hcs, hds⟩ := id hs
  unfold Builtin.Slice.sliceApplied Builtin.Slice.sliceFields
  refine wpAny_bind (wpAny_bind (wpAny_field hos hds (x := .none) rfl (wpAny_bind (wpAny_field hos hds (x := .none) rfl (wpAny_bind (wpAny_field hos hds (x := .int (-1) t) rfl (wpAny_pure ?_)))))))
  refine wpAny_bind (slicePart_int ?_)
  show wpAny _ _ (if ((-1 : Int) == 0) = true then _ else _) _ _ s
  rw [if_neg (by decide)]
  refine wpAny_bind (slicePart_none (wpAny_bind (slicePart_none (wpAny_bind (wpAny_pure ?_)))))
  have e : Builtin.Slice.slicePlaces ((n : Int) - 1) (-1) (-1) = n := by
    unfold Builtin.Slice.slicePlaces
    rw [if_neg (by decide)]
    by_cases hn : (n : Int) - 1 > -1
    · rw [if_pos hn, show (-(-1 : Int)) = 1 from rfl, Int.ediv_one]
      omega
    · rw [if_neg hn]
      omega
  have q : wpAny (model prog w) A (pure (((n : Int) - 1), (-1 : Int), Builtin.Slice.slicePlaces ((n : Int) - 1) (-1) (-1))) Q E s := by
    rw [e]
    exact wpAny_pure h
  exact q
theorem fm_congr {α β : Type} {f g : α → Option β} : ∀ {l : List α}, (∀ m ∈ l, f m = g m) → l.filterMap f = l.filterMap g
  | [], _ => rfl
  | a :: l, h => by rw [List.filterMap_cons, List.filterMap_cons, h a List.mem_cons_self, fm_congr fun m hm => h m (List.mem_cons_of_mem _ hm)]
theorem pick_rev (xs : Array Value) : ((List.range xs.size).filterMap fun (m : Nat) => xs[(((xs.size : Int) - 1) + (m : Int) * (-1)).toNat]?).toArray = xs.toList.reverse.toArray := by
  have e : ((List.range xs.size).filterMap fun (m : Nat) => xs[(((xs.size : Int) - 1) + (m : Int) * (-1)).toNat]?) = (((List.range xs.size).map fun k => xs.size - 1 - k).filterMap (xs[·]?)) := by
    rw [List.filterMap_map]
    refine fm_congr fun m hm => ?_
    have hm' := List.mem_range.mp hm
    show xs[_]? = xs[xs.size - 1 - m]?
    have : (((xs.size : Int) - 1) + (m : Int) * (-1)).toNat = xs.size - 1 - m := by omega
    rw [this]
  rw [e, PySem.W.krv_range, List.filterMap_reverse, PySem.W.krv_all]
theorem getItem_tuple_rev {t sl : Addr} {items : Array Value} {u : Tok} {Q : Value → Shared → Prop} (ht : IsTup s.heap t items) (hs : s.heap.IsSliceOf sl .none .none (.int (-1) u))
    (h : Q (.ref s.heap.objs.size) { s with heap := s.heap.push { cls := .type "tuple", data := .seq items.toList.reverse.toArray } })
    (hsz : items.size ≤ sizeLine) : wpAny (model prog w) A (getItem (.ref t) (.ref sl)) Q E s := by
  have htake : sizeOk (.seq items.toList.reverse.toArray) := by
    show items.toList.reverse.toArray.size ≤ sizeLine
    rw [List.size_toArray, List.length_reverse, Array.length_toList]
    exact hsz
  obtain ⟨os, hos, hcs, hds⟩ := id hs
  have hTs : s.TypeIs (.ref sl) "slice" := ⟨os, hos, hcs⟩
  unfold getItem
  try with_reducible refine wpAny_holding ?_
  first | refine wpAny_bind (wpAny_pure ?_) | skip
  refine wpAny_bind (wpAny_sequenceKey ht.typeIs (by decide) ?_)
  refine wpAny_bind (wpAny_callSpecial?_slot (name := Str.ofString "__getitem__") ht.typeIs PyProof.Rows.slot_tuple_getitem
    (wpAny_call_entry PyProof.Rows.slot_tuple_getitem ht.typeIs entry_tuple_getitem ?_ (args_tuple_getitem _ _)))
  show wpAny _ _ (Builtin.Tuple.tupleItemsOf (.ref t) >>= _) _ _ s
  refine wpAny_bind (tupleItemsOf_ ht ?_)
  refine wpAny_bind (wpAny_typeOf hTs ?_)
  rw [if_pos (by decide)]
  refine wpAny_bind (sliceApplied_rev hs ?_)
  have hno : ¬ ((((items.size : Int) - 1) == 0 && (-1 : Int) == 1 && items.size == items.size) = true) := by
    intro q
    rw [Bool.and_eq_true, Bool.and_eq_true] at q
    exact absurd q.1.2 (by decide)
  show wpAny _ _ (if (((items.size : Int) - 1) == 0 && (-1 : Int) == 1 && items.size == items.size) = true then _ else _) _ _ s
  rw [if_neg hno, pick_rev]
  first
    | exact wpAny_bind (m := Builtin.Tuple.tupleExact _) (wpAny_newObj_type (wpAny_pure ⟨_, rfl, wpAny_pure h⟩) htake)
    | exact wpAny_bind (m := Builtin.Tuple.tupleExact _) (wpAny_newObj_type (wpAny_bind (wpAny_pure (wpAny_pure ⟨_, rfl, wpAny_pure h⟩))) htake)
    | exact wpAny_bind (wpAny_bind (m := Builtin.Tuple.tupleExact _) (wpAny_newObj_type (wpAny_pure (wpAny_pure ⟨_, rfl, wpAny_pure h⟩)) htake))
    | exact wpAny_bind (wpAny_bind (m := Builtin.Tuple.tupleExact _) (wpAny_newObj_type (wpAny_pure ⟨_, rfl, wpAny_pure h⟩) htake))
end
def rRevX (K : PySem.W.Frag) : V → Hp → VK → Prop := fun x H Q => ∃ a xs, x = .ref a ∧ ((SqL K H a xs ∧ ∀ p, H p = none → Q (.ref p) (upd H p (.lst xs.reverse))) ∨ (SqT K H a xs ∧ ∀ p, H p = none → Q (.ref p) (upd H p (.tup xs.reverse))))
def tRevX (K : PySem.W.Frag) (te ts : TE) : TE := fun σ H Q => te σ H fun x H1 => ts σ H1 fun k H2 => k = .int (-1) ∧ rRevX K x H2 Q
section
variable {X : Cx} {K : PySem.W.Frag} {L : Lk} {a b : Expr} {ta tb : TE} {wa wb : WE} {pos p2 : Pos}
theorem pe_revX (he : PE X a ta) (hk : PE X b tb) : PE X (.Subscript a (.Slice none none (some b) p2) pos) (tRevX X.K ta tb) := by
  refine ⟨fun pins s σ H Q I h => ?_⟩
  refine Subscript_ (thn (he.run pins s σ H _ I h) fun v s1 ⟨x, H1, I1, r1, q1⟩ => ?_)
  refine wpAny_Slice ?_
  rw [evalPart_none]
  refine wpAny_pure (wpAny_pure ?_)
  rw [evalPart_some]
  refine thn (hk.run pins s1 σ H1 _ I1 q1) fun vk s2 ⟨k, H2, I2, rk, ek, xa, xs, ex, q2⟩ => ?_
  subst ek ex
  obtain ⟨tk, rfl⟩ := rk
  cases r1
  have I4 : Inv X pins σ H2 { s2 with heap := s2.heap.push { cls := .type "slice", data := .fields #[.none, .none, .int (-1) tk] } } := I2.kept (t' := s2.toks) fun b ob q => Heap.get?_push_of_some _ q
  have hsl : (s2.heap.push { cls := .type "slice", data := .fields #[.none, .none, .int (-1) tk] }).IsSliceOf s2.heap.objs.size .none .none (.int (-1) tk) := Heap.IsSliceOf.new ..
  show wpAny (model X.prog X.w) X.A (subscriptTail a (.Slice none none (some b) p2) (.ref xa) (.ref s2.heap.objs.size)) (EP X pins σ Q) X.xe { s2 with heap := s2.heap.push { cls := .type "slice", data := .fields #[.none, .none, .int (-1) tk] } }
  rcases q2 with ⟨hx, q⟩ | ⟨hx, q⟩
  · obtain ⟨its, r, ht, hz⟩ := I4.list hx
    refine tail_any (ops := [.ref xa, .ref s2.heap.objs.size]) ht.isList.typeIs slot_list_getitem.lookup ?_ (by with_unfolding_all rfl)
    refine wpAny_getItem_list_slice (st := some (-1)) ht.isList hsl .none .none (.int _ _) (by simp) ?_ (by rw [List.size_toArray, ← r.length]; exact hz)
    rw [PySem.W.krv_pick]
    refine ⟨.ref _, _, I4.laid (t' := s2.toks) (o := .lst xs.reverse) (fun b ob q => Heap.get?_push_of_some _ q) (Nat.le_refl _) ?_, rfl, q _ (I4.hok.fresh (Nat.le_refl _))⟩
    exact ⟨by rw [List.length_reverse]; exact hz, _, 0, r.reverse, Heap.get?_push_size _ rfl⟩
  · obtain ⟨its, r, ht, hz⟩ := I4.tuple hx
    refine tail_any (ops := [.ref xa, .ref s2.heap.objs.size]) ht.typeIs PyProof.Rows.slot_tuple_getitem.lookup ?_ (by with_unfolding_all rfl)
    refine getItem_tuple_rev ht hsl ?_ (by rw [List.size_toArray, ← r.length]; exact hz)
    refine ⟨.ref _, _, I4.laid (t' := s2.toks) (o := .tup xs.reverse) (fun b ob q => Heap.get?_push_of_some _ q) (Nat.le_refl _) ?_, rfl, q _ (I4.hok.fresh (Nat.le_refl _))⟩
    exact ⟨by rw [List.length_reverse]; exact hz, _, r.reverse, IsTup.new _ _⟩
def cRev (m : Bool) : D → MS → KV2 → Prop
  | .lst ds => fun S Q => newL m ds.reverse S Q
  | .tup ds => fun S Q => Q (.tup ds.reverse) S
  | _ => fun _ _ => False
def wRev (m : Bool) (wa wb : WE) : WE := fun ρ S Q => wa ρ S fun x ρ1 S1 => wb ρ1 S1 fun k ρ2 S2 => k = .int (-1) ∧ cRev m (rd S2 x) S2 fun d S3 => Q d ρ2 S3
theorem re_rev (m : Bool) (h : RE K L ta wa) (h2 : RE K L tb wb) : RE K L (tRevX K ta tb) (wRev m wa wb) := by
  intro F ρ S σ H Q R mt q k
  refine h F ρ S σ H _ _ mt q fun x H1 dx ρ1 S1 F1 e1 m1 r1 q1 => ?_
  refine h2 F1 ρ1 S1 σ H1 _ _ m1 q1 fun y H2 dy ρ2 S2 F2 e2 m2 r2 q2 => ?_
  obtain ⟨ek, q2⟩ := q2
  subst ek
  cases r2
  refine ⟨rfl, ?_⟩
  have rt := rd_ok m2.fs (r1.up e2)
  have k2 : KO K F2 (fun d S4 => Q d ρ2 S4) R := fun v H' d S' F' e x r q => k v H' d ρ2 S' F' ((e1.trans e2).trans e) (m2.step e x) r q
  generalize rd S2 dx = y at rt q2
  cases y <;> first | exact q2.elim | skip
  · obtain ⟨a, vs, rfl, h1, h2, h3⟩ := rt
    exact ⟨a, vs, rfl, .inr ⟨h1, fun p hp => newT_ok k2 m2.fs h2.reverse q2 hp⟩⟩
  · obtain ⟨a, vs, rfl, h1, h2⟩ := rt
    exact ⟨a, vs, rfl, .inl ⟨.inl h1, fun p hp => newL_ok k2 m2.fs h2.reverse q2 hp⟩⟩
theorem de_rev (m : Bool) (h : DE X L a ta wa) (h2 : DE X L b tb wb) : DE X L (.Subscript a (.Slice none none (some b) p2) pos) (tRevX X.K ta tb) (wRev m wa wb) :=
  ⟨pe_revX h.pe h2.pe, re_rev m h.re h2.re⟩
/-! ### {} -/
def wDic0 : WE := fun ρ S Q => Q (.dic [] []) ρ S
theorem re_dic0 : RE K L tDNewK wDic0 := by
  intro F ρ S σ H Q R m q k p hp
  obtain ⟨sp, fp⟩ := m.fs.notS hp
  exact k _ _ _ ρ S _ (ExF.new fp) (m.step (ExF.new fp) (m.fs.grow hp)) (.dic upd_same rfl .nil) q
theorem de_dic0 : DE X L (.Dict [] [] pos) tDNewK wDic0 := ⟨pe_dnewK, re_dic0⟩
end
/-! ### the hand: made, then known by what stays true of it -/
def handSp (J : List D → List Int → Addr → Prop) : DSp := fun ds S Q _ => ∃ ns : List Int, ds = [.lst (ns.map D.int)] ∧ (∀ a m, S a = some m → isOpq m = false) ∧ ∀ t, S t = none → Q (.ref t) (S.set t (.opq (opq2 J)))
def handSpO (J : List D → List Int → Addr → Prop) : DSp := fun ds S Q _ => ∃ ns : List Int, ds = [.lst (ns.map D.int)] ∧ ∀ t c xs cells, S t = none → S c = none → c ≠ t → J xs cells c → Q (.ref t) (opened S t c xs cells)
theorem hand_of {P : Program} {w : World} {K : PySem.W.Frag} {mg : Str → Option Value} {base : Heap} {CX : CXT} {k : Nat} {x : Str} {ps : List Str} {J : List D → List Int → Addr → Prop} (hJ : IntRef J) (h : Def P w K mg base CX k x ps (handSpO J)) : Def P w K mg base CX k x ps (handSp J) := by
  obtain ⟨f, fd, F, r⟩ := h.ex
  refine ⟨f, fd, F.imp fun vs H Q E q => ?_, r⟩
  obtain ⟨ds, F0, S, Qd, Ed, fs, rr, ⟨ns, rfl, no, hq⟩, kq, ke⟩ := q
  refine ⟨_, F0, S, fun d S2 => ∃ t c xs cells, d = .ref t ∧ S t = none ∧ S c = none ∧ c ≠ t ∧ J xs cells c ∧ S2 = opened S t c xs cells, Ed, fs, rr, ⟨ns, rfl, fun t c xs cells h1 h2 h3 h4 => ⟨t, c, xs, cells, rfl, h1, h2, h3, h4, rfl⟩⟩, ?_, ke⟩
  rintro v H' d F' S' ex fs' rv ⟨t, c, xs, cells, rfl, h1, h2, h3, h4, rfl⟩
  exact kq v H' _ F' _ ex (fs'.made2 no hJ h1 h2 h3 h4) rv (hq t h1)
/-- made of the store as it is: the cells first, then the thing -/
theorem opened_mk {S : MS} {t c : Addr} {ds : List D} {cells : List Int} (h : c ≠ t) : (S.set c (.lst (cells.map D.int))).set t (.lst ds) = opened S t c ds cells := by
  unfold opened
  rw [MS.set_comm h]
end DL
/-! DL11: the rules with the frag named, for use within comprehensions. -/
namespace DL
open PySem PySem.Spec PyProof.Rows L2
section
variable {X : Cx} {L : Lk} {K : PySem.W.Frag}
theorem op_addK (K : PySem.W.Frag) (hK : X.K = K := by rfl) : OpR X (binaryOp .Add) (rAddA K) := by subst hK; exact op_addA
theorem op_mulK (K : PySem.W.Frag) (hK : X.K = K := by rfl) : OpR X (binaryOp .Mult) (rMulA K) := by subst hK; exact op_mulA
theorem op_eqK (K : PySem.W.Frag) (h : X.A.units + 64 < cLine) (hK : X.K = K := by rfl) : OpR X (compareOp .Eq) (rEqD K) := by subst hK; exact op_eqD h
theorem op_neK (K : PySem.W.Frag) (h : X.A.units + 64 < cLine) (hK : X.K = K := by rfl) : OpR X (compareOp .NotEq) (rNeD K) := by subst hK; exact op_neD h
theorem op_inK (K : PySem.W.Frag) (hK : X.K = K := by rfl) : OpR X (compareOp .In) (rIn K false) := by subst hK; exact op_in_seq
theorem op_notInK (K : PySem.W.Frag) (hK : X.K = K := by rfl) : OpR X (compareOp .NotIn) (rIn K true) := by subst hK; exact op_notIn_seq
theorem call_lenK (K : PySem.W.Frag) (hK : X.K = K := by rfl) : CallR X (.builtin "len") (rLen1 K) := by subst hK; exact call_len
theorem cr_allK (K : PySem.W.Frag) (h : X.calm = true) (hK : X.K = K := by rfl) : CallR X (.builtin "all") (rAll K) := by subst hK; exact cr_all h
theorem cr_anyK (K : PySem.W.Frag) (h : X.calm = true) (hK : X.K = K := by rfl) : CallR X (.builtin "any") (rAny K) := by subst hK; exact cr_any h
theorem call_listK (K : PySem.W.Frag) (hK : X.K = K := by rfl) : CallR X (.type "list") (rListOf K) := by subst hK; exact call_list_of
theorem call_tupleK (K : PySem.W.Frag) (hK : X.K = K := by rfl) : CallR X (.type "tuple") (rTupleOf K) := by subst hK; exact call_tuple_of
theorem cr_sortedK (K : PySem.W.Frag) (hK : X.K = K := by rfl) : CallR X (.builtin "sorted") (rSortedA K) := by subst hK; exact cr_sortedA
variable {a b e o : Expr} {es : List Expr} {ta tb to : TE} {wa wb wo : DL.WE} {t : TA} {wr : WA} {pos p p2 : Pos}
theorem de_isiK (K : PySem.W.Frag) (T : BT) {x : Str} {q1 : Pos} (hg : Gl X "isinstance") (hm : X.mg "isinstance" = none) (h : DE X L a ta wa) (hmx : X.mg x = none) (hx : x = Str.ofString T.nm := by rfl) (hgx : Gl X x := by rfl) (hn : x ≠ "__name__" := by decide) (hdb : (x == ("__debug__" : Str)) = false := by decide)
    (h6 : starEach [a, Expr.Name x q1] X.env = (false, eval a X.env) :: starEach [Expr.Name x q1] X.env := by rfl) (h7 : starEach [Expr.Name x q1] X.env = (false, eval (Expr.Name x q1) X.env) :: starEach [] X.env := by rfl) (h8 : ((backTo pos (starEach [Expr.Name x q1] X.env)).any fun x => x.fst) = false := by rfl) (hK : X.K = K := by rfl) :
    DE X L ((Expr.Name (Str.ofString "isinstance") p).Call [a, Expr.Name x q1] [] pos) (tCB (rIsi K) (tCons ta (tCons (tC (V.ty T.nm)) tNil))) (wIsi T wa) := by
  subst hK
  exact de_isi T hg hm h hx hgx hmx hn hdb h6 h7 h8
theorem de_isi2K (K : PySem.W.Frag) (T T2 : BT) {x y : Str} {q1 q2 q3 : Pos} {kt : Nat} (hg : Gl X "isinstance") (hm : X.mg "isinstance" = none) (h : DE X L a ta wa) (hmx : X.mg x = none) (hmy : X.mg y = none) (hx : x = Str.ofString T.nm := by rfl) (hy : y = Str.ofString T2.nm := by rfl) (hgx : Gl X x := by rfl) (hgy : Gl X y := by rfl) (hn : x ≠ "__name__" := by decide) (hdb : (x == ("__debug__" : Str)) = false := by decide)
    (hn2 : y ≠ "__name__" := by decide) (hdb2 : (y == ("__debug__" : Str)) = false := by decide)
    (h6 : starEach [a, Expr.Tuple [Expr.Name x q1, Expr.Name y q2] kt q3] X.env = (false, eval a X.env) :: starEach [Expr.Tuple [Expr.Name x q1, Expr.Name y q2] kt q3] X.env := by rfl)
    (h7 : starEach [Expr.Tuple [Expr.Name x q1, Expr.Name y q2] kt q3] X.env = (false, eval (Expr.Tuple [Expr.Name x q1, Expr.Name y q2] kt q3) X.env) :: starEach [] X.env := by rfl)
    (h8 : starEach [Expr.Name x q1, Expr.Name y q2] X.env = (false, eval (Expr.Name x q1) X.env) :: starEach [Expr.Name y q2] X.env := by rfl) (h9 : starEach [Expr.Name y q2] X.env = (false, eval (Expr.Name y q2) X.env) :: starEach [] X.env := by rfl)
    (h10 : ((backTo pos (starEach [Expr.Tuple [Expr.Name x q1, Expr.Name y q2] kt q3] X.env)).any fun x => x.fst) = false := by rfl) (hK : X.K = K := by rfl) :
    DE X L ((Expr.Name (Str.ofString "isinstance") p).Call [a, Expr.Tuple [Expr.Name x q1, Expr.Name y q2] kt q3] [] pos) (tCB (rIsiT K) (tCons ta (tCons (tTup (tCons (tC (V.ty T.nm)) (tCons (tC (V.ty T2.nm)) tNil))) tNil))) (wIsi2 T T2 wa) := by
  subst hK
  exact de_isi2 T T2 hg hm h hx hy hgx hgy hmx hmy hn hdb hn2 hdb2 h6 h7 h8 h9 h10
theorem de_ixK (K : PySem.W.Frag) (ha : DE X L a ta wa) (hb : DE X L b tb wb) (hs : PlainIx b := by exact fun _ _ => rfl) (hK : X.K = K := by rfl) : DE X L (a.Subscript b pos) (tOp (rIx K) ta tb) (wOp wIx wa wb) := by
  subst hK
  exact de_ix ha hb hs
theorem de_slK (K : PySem.W.Frag) (m : Bool) {lo hi : Option Expr} {tl th : TO} {wl wh : WO} (h : DE X L a ta wa) (hl : DO X L lo tl wl) (hh : DO X L hi th wh) (hK : X.K = K := by rfl) : DE X L (.Subscript a (.Slice lo hi none p2) pos) (tSl (rSlA2 K) ta tl th) (wSl m wa wl wh) := by
  subst hK
  exact de_sl m h hl hh
theorem de_revK (K : PySem.W.Frag) (m : Bool) (h : DE X L a ta wa) (h2 : DE X L b tb wb) (hK : X.K = K := by rfl) : DE X L (.Subscript a (.Slice none none (some b) p2) pos) (tRevX K ta tb) (wRev m wa wb) := by
  subst hK
  exact de_rev m h h2
theorem di_seqK (K : PySem.W.Frag) {tg : Expr} (h : DE X L a ta wa) (hK : X.K = K := by rfl) : DI X L tg a (iSeq K ta) (wiSeq wa) := by
  subst hK
  exact di_seq h
theorem di_enumK (K : PySem.W.Frag) {tpos : Pos} {elts : List Expr} {kk : Nat} (hg : Gl X "enumerate") (hm : X.mg "enumerate" = none) (ha : DA X L [e] t wr) (hs : starEach [e] X.env = [(false, eval e X.env)] := by rfl) (hK : X.K = K := by rfl) :
    DI X L (.Tuple elts kk tpos) (.Call (.Name "enumerate" p) [e] [] pos) (iEnumA K t) (wiEnum wr) := by
  subst hK
  exact di_enum hg hm ha hs
theorem di_zipK (K : PySem.W.Frag) {e2 : Expr} {tpos : Pos} {elts : List Expr} {kk : Nat} (hg : Gl X "zip") (hm : X.mg "zip" = none) (ha : DA X L [e, e2] t wr) (hs : starEach [e, e2] X.env = (false, eval e X.env) :: starEach [e2] X.env := by rfl) (hs2 : ((backTo pos (starEach [e2] X.env)).any fun x => x.fst) = false := by rfl) (hK : X.K = K := by rfl) :
    DI X L (.Tuple elts kk tpos) (.Call (.Name "zip" p) [e, e2] [] pos) (RZ.iZipA K t) (wiZip wr) := by
  subst hK
  exact di_zip hg hm ha hs hs2
theorem de_bmK (K : PySem.W.Frag) {T id : String} {name : Str} {apos cpos : Pos} {r : V → List V → Hp → VK → Prop} {wm : D → List D → MS → KV2 → Prop} (pa : PlainAttrs T) (slot : Slot T name id) (hty : typeOf (.builtin id) = pure (.type "method_descriptor")) (hm : MtR X id r) (hr : RM K r wm) (ho : DE X L o to wo) (ha : DA X L (e :: es) t wr)
    (h1 : attributeBase o name X.env (eval o X.env) = eval o X.env := by rfl)
    (h2 : ((((backTo cpos (starEach (e :: es) X.env)).all fun x => !x.fst) && (backToKw cpos (keywordEach [] X.env)).all fun x => x.fst.isSome) && decide (((e :: es).length + ([] : List Keyword).length + if ([] : List Keyword).isEmpty = true then 0 else 1) < 30)) = true := by rfl)
    (h3 : (apos.endLine == cpos.line) = true := by rfl) (h4 : starEach (e :: es) X.env = (false, eval e X.env) :: starEach es X.env := by rfl) (h5 : ((backTo cpos (starEach es X.env)).any fun x => x.fst) = false := by rfl) (hK : X.K = K := by rfl) :
    DE X L ((o.Attribute name apos).Call (e :: es) [] cpos) (tBM K T r to t) (wBM T wm wo wr) := by
  subst hK
  exact de_bm pa slot hty hm hr ho ha h1 h2 h3 h4 h5
theorem de_bm0K (K : PySem.W.Frag) {T id : String} {name : Str} {apos cpos : Pos} {r : V → List V → Hp → VK → Prop} {wm : D → List D → MS → KV2 → Prop} (pa : PlainAttrs T) (slot : Slot T name id) (hty : typeOf (.builtin id) = pure (.type "method_descriptor")) (hm : MtR X id r) (hr : RM K r wm) (ho : DE X L o to wo)
    (h1 : attributeBase o name X.env (eval o X.env) = eval o X.env := by rfl) (h3 : (apos.endLine == cpos.line) = true := by rfl) (hK : X.K = K := by rfl) :
    DE X L ((o.Attribute name apos).Call [] [] cpos) (tBM0 K T r to) (wBM T wm wo wNil) := by
  subst hK
  exact de_bm0 pa slot hty hm hr ho h1 h3
variable {x : Str} {CX : CXT} {k : Nat} {ps : List Str} {sp : DSp}
theorem de_callK (C : Def X.prog X.w K X.mg X.base CX k x ps sp) (hr : Room k X.A) (hx : Passes CX X E0) (hg : Gl X x) (ha : DA X L (e :: es) t wr) (hdb : (x == ("__debug__" : Str)) = false := by decide) (he : starEach (e :: es) X.env = (false, eval e X.env) :: starEach es X.env := by rfl) (hpl : (backTo pos (starEach es X.env)).any (·.1) = false := by rfl) (hK : X.K = K := by rfl) :
    DE X L (.Call (.Name x p) (e :: es) [] pos) (tCall (spD K sp) [] E0 t) (wCall sp wr) := by
  subst hK
  exact de_call C hr hx hg ha hdb he hpl
theorem de_call0K (C : Def X.prog X.w K X.mg X.base CX k x ps sp) (hr : Room k X.A) (hx : Passes CX X E0) (hg : Gl X x) (hdb : (x == ("__debug__" : Str)) = false := by decide) (hK : X.K = K := by rfl) :
    DE X L (.Call (.Name x p) [] [] pos) (tCall (spD K sp) [] E0 tNil) (wCall sp wNil) := by
  subst hK
  exact de_call0 C hr hx hg hdb
theorem de_callXK (C : Def X.prog X.w K X.mg X.base CX k x ps sp) (hr : Room k X.A) (hx : Passes CX X L.E) (hg : Gl X x) (ha : DA X L (e :: es) t wr) (hdb : (x == ("__debug__" : Str)) = false := by decide) (he : starEach (e :: es) X.env = (false, eval e X.env) :: starEach es X.env := by rfl) (hpl : (backTo pos (starEach es X.env)).any (·.1) = false := by rfl) (hK : X.K = K := by rfl) :
    DE X L (.Call (.Name x p) (e :: es) [] pos) (tCall (spD K sp) [] L.E t) (wCallX L sp wr) := by
  subst hK
  exact de_callX C hr hx hg ha hdb he hpl
theorem dg_tupK (K : PySem.W.Frag) {vs : List Nat} {kk : Nat} {g : TGs} {w : WGs} {n : Nat} (hc : X.calm = true) (h : DGs X L vs es g w)
    (hn : (assignEach es X.env).length = n := by rfl) (hst : (assignEach es X.env).findIdx? (·.1) = none := by rfl) (hK : X.K = K := by rfl) : DG X L vs (.Tuple es kk pos) (gTup K n g) (wgTup (lenOk n w)) := by
  subst hK
  exact dg_tup hc h hn hst
end
end DL
/-! DL12: readings by rewriting. -/
namespace DL
open PySem PySem.Spec PyProof.Rows L2
theorem eqD_int {a b : Int} : eqD (.int a) (.int b) = decide (a = b) := by
  simp only [eqD, toPy, PyData.eqv]
  rfl
theorem eqD_bl {a b : Bool} : eqD (.bl a) (.bl b) = (a == b) := by simp [eqD, toPy, PyData.eqv]
theorem eqD_non : eqD .non .non = true := by simp [eqD, toPy, PyData.eqv]
theorem okD_int {a : Int} : okD (.int a) = true := rfl
theorem okD_bl {a : Bool} : okD (.bl a) = true := rfl
theorem okD_non : okD .non = true := rfl
theorem isNon_int {a : Int} : isNon (.int a) = false := rfl
theorem isNon_bl {a : Bool} : isNon (.bl a) = false := rfl
theorem isNon_non : isNon .non = true := rfl
theorem isNon_tup {a : List D} : isNon (.tup a) = false := rfl
theorem isNon_str {a : Str} : isNon (.str a) = false := rfl
theorem isNon_ref {a : Addr} : isNon (.ref a) = false := rfl
theorem isNon_lst {a : List D} : isNon (.lst a) = false := rfl
theorem ex_some_iff {a : D} {p : D → Prop} : (∃ d, some (some a) = some (some d) ∧ p d) ↔ p a := ⟨fun ⟨d, e, h⟩ => by cases e; exact h, fun h => ⟨a, rfl, h⟩⟩
theorem ite_bl {c : Bool} {p q : Prop} (hp : c = true → p) (hq : c = false → q) : if c = true then p else q := by
  cases c
  · rw [if_neg Bool.false_ne_true]; exact hq rfl
  · rw [if_pos rfl]; exact hp rfl
theorem pl_int {a : Int} : plD (.int a) = true := rfl
theorem pl_bl {a : Bool} : plD (.bl a) = true := rfl
theorem pl_non : plD .non = true := rfl
theorem pl_tup {a : List D} : plD (.tup a) = true := rfl
theorem pl_lst {a : List D} : plD (.lst a) = true := rfl
theorem pl_str {a : Str} : plD (.str a) = true := rfl
theorem le_sz {n : Nat} (h : n ≤ 1000000) : n ≤ sizeLine := by rw [sizeLine_eq]; omega
theorem lt_sz {n : Nat} (h : n < 1000000) : n < sizeLine := by rw [sizeLine_eq]; omega
theorem pu_tup {ds : List D} : pu (.tup ds) = pus ds := rfl
theorem pu_lst {ds : List D} : pu (.lst ds) = pus ds := rfl
theorem pu_int {i : Int} : pu (.int i) = true := rfl
theorem pu_bl {i : Bool} : pu (.bl i) = true := rfl
theorem pu_str {i : Str} : pu (.str i) = true := rfl
theorem pu_non : pu .non = true := rfl
theorem pus_ints {ns : List Int} : pus (ns.map D.int) = true := by
  induction ns with
  | nil => rfl
  | cons n ns ih => simp [pus, pu, ih]
theorem pus_mem {ds : List D} (h : pus ds = true) {d : D} (m : d ∈ ds) : pu d = true := pus_iff.mp h d m
theorem pus_getD {ds : List D} (h : pus ds = true) (i : Nat) : pu (ds.getD i .non) = true := by
  rw [List.getD_eq_getElem?_getD]
  cases e : ds[i]? with
  | none => rfl
  | some d => exact pus_mem h (List.mem_of_getElem? e)
theorem rd_pu {S : MS} {d : D} (h : pu d = true) : rd S d = d := rd_pl (pl_of_pu h)
theorem atI_nat {ds : List D} {i : Int} {d : D} (h0 : 0 ≤ i) (h : ds[i.toNat]? = some d) : atI ds i = some d := by
  have hl : i.toNat < ds.length := (List.getElem?_eq_some_iff.mp h).1
  unfold atI ixN
  rw [if_pos h0, if_pos (by omega)]
  exact h
theorem atI_lt {ds : List D} {i : Int} (h0 : 0 ≤ i) (h : i < ds.length) : atI ds i = some (ds.getD i.toNat .non) := by
  refine atI_nat h0 ?_
  rw [List.getD_eq_getElem?_getD]
  have : i.toNat < ds.length := by omega
  rw [List.getElem?_eq_getElem this]
  rfl
theorem ex_at_iff {ds : List D} {i : Int} {p : D → Prop} (h0 : 0 ≤ i) (h : i < ds.length) : (∃ d, atI ds i = some d ∧ p d) ↔ p (ds.getD i.toNat .non) := by
  rw [atI_lt h0 h]
  exact ⟨fun ⟨d, e, q⟩ => by cases e; exact q, fun q => ⟨_, rfl, q⟩⟩
theorem cAll_bl {bs : List Bool} {S : MS} {Q : KV2} (q : Q (.bl (bs.all id)) S) : cAll (.lst (bs.map D.bl)) S Q := ⟨bs, rfl, q⟩
theorem cAny_bl {bs : List Bool} {S : MS} {Q : KV2} (q : Q (.bl (bs.any id)) S) : cAny (.lst (bs.map D.bl)) S Q := ⟨bs, rfl, q⟩
theorem map_bl {ds : List D} {f : D → Bool} : ds.map (fun d => D.bl (f d)) = (ds.map f).map D.bl := by rw [List.map_map]; rfl
theorem all_map_id {α : Type} {ds : List α} {f : α → Bool} : (ds.map f).all id = ds.all f := by rw [List.all_map]; rfl
/-! ### what == covers, and what it tells -/
def okL (n : Nat) (d : D) : Bool := (toPy d).canLay0 && decide ((toPy d).depth ≤ n)
theorem okD_L {d : D} : okD d = okL 64 d := rfl
theorem okL_mono {n m : Nat} {d : D} (h : okL n d = true) (l : n ≤ m) : okL m d = true := by
  simp only [okL, Bool.and_eq_true, decide_eq_true_eq] at h ⊢
  exact ⟨h.1, by omega⟩
theorem okL_int {n : Nat} {i : Int} : okL n (.int i) = true := by simp [okL, toPy, PyData.canLay0, PyData.depth]
theorem okL_bl {n : Nat} {i : Bool} : okL n (.bl i) = true := by simp [okL, toPy, PyData.canLay0, PyData.depth]
theorem okL_non {n : Nat} : okL n .non = true := by simp [okL, toPy, PyData.canLay0, PyData.depth]
theorem okL_all {n : Nat} : ∀ {ds : List D}, (∀ d ∈ ds, okL n d = true) → PyData.canLayAll0 (toPys ds) = true ∧ PyData.depthAll (toPys ds) ≤ n
  | [], _ => by simp [toPys, PyData.canLayAll0, PyData.depthAll]
  | d :: ds, h => by
    have h1 := h d List.mem_cons_self
    have h2 := okL_all (n := n) fun x hx => h x (List.mem_cons_of_mem _ hx)
    simp only [okL, Bool.and_eq_true, decide_eq_true_eq] at h1
    simp only [toPys, PyData.canLayAll0, PyData.depthAll, Bool.and_eq_true]
    exact ⟨⟨h1.1, h2.1⟩, by omega⟩
theorem okL_lst {n : Nat} {ds : List D} (h : ∀ d ∈ ds, okL n d = true) : okL (n + 1) (.lst ds) = true := by
  have := okL_all h
  simp only [okL, toPy, PyData.canLay0, PyData.depth, Bool.and_eq_true, decide_eq_true_eq]
  exact ⟨this.1, by omega⟩
theorem okL_tup {n : Nat} {ds : List D} (h : ∀ d ∈ ds, okL n d = true) : okL (n + 1) (.tup ds) = true := by
  have := okL_all h
  simp only [okL, toPy, PyData.canLay0, PyData.depth, Bool.and_eq_true, decide_eq_true_eq]
  exact ⟨this.1, by omega⟩
theorem okD_ints {ns : List Int} : okD (.lst (ns.map D.int)) = true := okL_mono (okL_lst (n := 0) fun d hd => by
  obtain ⟨i, _, rfl⟩ := List.mem_map.mp hd
  exact okL_int) (by decide)
theorem okD_intsT {ns : List Int} : okD (.tup (ns.map D.int)) = true := okL_mono (okL_tup (n := 0) fun d hd => by
  obtain ⟨i, _, rfl⟩ := List.mem_map.mp hd
  exact okL_int) (by decide)
theorem eqD_refl {d : D} (h : okD d = true) : eqD d d = true := SeqAt.eqv_refl _ (SeqAt.canLay_of_shaped h)
theorem eqvAll_ints : ∀ {xs ys : List Int}, PyData.eqvAll (toPys (xs.map D.int)) (toPys (ys.map D.int)) = decide (xs = ys)
  | [], [] => by simp [toPys, PyData.eqvAll]
  | [], y :: ys => by simp [toPys, PyData.eqvAll]
  | x :: xs, [] => by simp [toPys, PyData.eqvAll]
  | x :: xs, y :: ys => by
    have ih := eqvAll_ints (xs := xs) (ys := ys)
    simp only [List.map_cons, toPys, PyData.eqvAll, toPy, PyData.eqv, ih, List.cons.injEq]
    rw [Bool.decide_and]
    rfl
theorem eqD_ints {xs ys : List Int} : eqD (.lst (xs.map D.int)) (.lst (ys.map D.int)) = decide (xs = ys) := by
  simp only [eqD, toPy, PyData.eqv]
  exact eqvAll_ints
theorem eqD_intsT {xs ys : List Int} : eqD (.tup (xs.map D.int)) (.tup (ys.map D.int)) = decide (xs = ys) := by
  simp only [eqD, toPy, PyData.eqv]
  exact eqvAll_ints
/-! ### readings of data of a known shape -/
theorem z_ix_at {ds : List D} {i : Int} {d : D} {S : MS} {Q : KV2} (h : atI ds i = some d) : wIx (.lst ds) (.int i) S Q ↔ Q d S := ⟨fun ⟨x, e, q⟩ => by rw [h] at e; cases e; exact q, fun q => ⟨d, h, q⟩⟩
theorem z_ixt_at {ds : List D} {i : Int} {d : D} {S : MS} {Q : KV2} (h : atI ds i = some d) : wIx (.tup ds) (.int i) S Q ↔ Q d S := ⟨fun ⟨x, e, q⟩ => by rw [h] at e; cases e; exact q, fun q => ⟨d, h, q⟩⟩
theorem atI_lit {l : List D} {d : D} {k : Nat} (h : l[k]? = some d) : atI l ((k : Nat) : Int) = some d := atI_nat (Int.natCast_nonneg k) (by rw [Int.toNat_natCast]; exact h)
theorem z_ix_0 {a0 : D} {l : List D} {S : MS} {Q : KV2} : wIx (.lst (a0 :: l)) (.int 0) S Q ↔ Q a0 S := z_ix_at (atI_lit (k := 0) rfl)
theorem z_ixt_0 {a0 : D} {l : List D} {S : MS} {Q : KV2} : wIx (.tup (a0 :: l)) (.int 0) S Q ↔ Q a0 S := z_ixt_at (atI_lit (k := 0) rfl)
theorem z_ix_1 {a0 a1 : D} {l : List D} {S : MS} {Q : KV2} : wIx (.lst (a0 :: a1 :: l)) (.int 1) S Q ↔ Q a1 S := z_ix_at (atI_lit (k := 1) rfl)
theorem z_ixt_1 {a0 a1 : D} {l : List D} {S : MS} {Q : KV2} : wIx (.tup (a0 :: a1 :: l)) (.int 1) S Q ↔ Q a1 S := z_ixt_at (atI_lit (k := 1) rfl)
theorem z_ix_2 {a0 a1 a2 : D} {l : List D} {S : MS} {Q : KV2} : wIx (.lst (a0 :: a1 :: a2 :: l)) (.int 2) S Q ↔ Q a2 S := z_ix_at (atI_lit (k := 2) rfl)
theorem z_ixt_2 {a0 a1 a2 : D} {l : List D} {S : MS} {Q : KV2} : wIx (.tup (a0 :: a1 :: a2 :: l)) (.int 2) S Q ↔ Q a2 S := z_ixt_at (atI_lit (k := 2) rfl)
theorem z_ix_3 {a0 a1 a2 a3 : D} {l : List D} {S : MS} {Q : KV2} : wIx (.lst (a0 :: a1 :: a2 :: a3 :: l)) (.int 3) S Q ↔ Q a3 S := z_ix_at (atI_lit (k := 3) rfl)
theorem z_ixt_3 {a0 a1 a2 a3 : D} {l : List D} {S : MS} {Q : KV2} : wIx (.tup (a0 :: a1 :: a2 :: a3 :: l)) (.int 3) S Q ↔ Q a3 S := z_ixt_at (atI_lit (k := 3) rfl)
theorem z_ix_4 {a0 a1 a2 a3 a4 : D} {l : List D} {S : MS} {Q : KV2} : wIx (.lst (a0 :: a1 :: a2 :: a3 :: a4 :: l)) (.int 4) S Q ↔ Q a4 S := z_ix_at (atI_lit (k := 4) rfl)
theorem z_ixt_4 {a0 a1 a2 a3 a4 : D} {l : List D} {S : MS} {Q : KV2} : wIx (.tup (a0 :: a1 :: a2 :: a3 :: a4 :: l)) (.int 4) S Q ↔ Q a4 S := z_ixt_at (atI_lit (k := 4) rfl)
theorem z_ix_5 {a0 a1 a2 a3 a4 a5 : D} {l : List D} {S : MS} {Q : KV2} : wIx (.lst (a0 :: a1 :: a2 :: a3 :: a4 :: a5 :: l)) (.int 5) S Q ↔ Q a5 S := z_ix_at (atI_lit (k := 5) rfl)
theorem z_ixt_5 {a0 a1 a2 a3 a4 a5 : D} {l : List D} {S : MS} {Q : KV2} : wIx (.tup (a0 :: a1 :: a2 :: a3 :: a4 :: a5 :: l)) (.int 5) S Q ↔ Q a5 S := z_ixt_at (atI_lit (k := 5) rfl)
theorem z_ix_6 {a0 a1 a2 a3 a4 a5 a6 : D} {l : List D} {S : MS} {Q : KV2} : wIx (.lst (a0 :: a1 :: a2 :: a3 :: a4 :: a5 :: a6 :: l)) (.int 6) S Q ↔ Q a6 S := z_ix_at (atI_lit (k := 6) rfl)
theorem z_ixt_6 {a0 a1 a2 a3 a4 a5 a6 : D} {l : List D} {S : MS} {Q : KV2} : wIx (.tup (a0 :: a1 :: a2 :: a3 :: a4 :: a5 :: a6 :: l)) (.int 6) S Q ↔ Q a6 S := z_ixt_at (atI_lit (k := 6) rfl)
theorem z_ix_7 {a0 a1 a2 a3 a4 a5 a6 a7 : D} {l : List D} {S : MS} {Q : KV2} : wIx (.lst (a0 :: a1 :: a2 :: a3 :: a4 :: a5 :: a6 :: a7 :: l)) (.int 7) S Q ↔ Q a7 S := z_ix_at (atI_lit (k := 7) rfl)
theorem z_ixt_7 {a0 a1 a2 a3 a4 a5 a6 a7 : D} {l : List D} {S : MS} {Q : KV2} : wIx (.tup (a0 :: a1 :: a2 :: a3 :: a4 :: a5 :: a6 :: a7 :: l)) (.int 7) S Q ↔ Q a7 S := z_ixt_at (atI_lit (k := 7) rfl)
theorem z_ix_8 {a0 a1 a2 a3 a4 a5 a6 a7 a8 : D} {l : List D} {S : MS} {Q : KV2} : wIx (.lst (a0 :: a1 :: a2 :: a3 :: a4 :: a5 :: a6 :: a7 :: a8 :: l)) (.int 8) S Q ↔ Q a8 S := z_ix_at (atI_lit (k := 8) rfl)
theorem z_ixt_8 {a0 a1 a2 a3 a4 a5 a6 a7 a8 : D} {l : List D} {S : MS} {Q : KV2} : wIx (.tup (a0 :: a1 :: a2 :: a3 :: a4 :: a5 :: a6 :: a7 :: a8 :: l)) (.int 8) S Q ↔ Q a8 S := z_ixt_at (atI_lit (k := 8) rfl)
theorem z_ix_lt {ds : List D} {i : Int} {S : MS} {Q : KV2} (h0 : 0 ≤ i) (h : i < ds.length) : wIx (.lst ds) (.int i) S Q ↔ Q (ds.getD i.toNat .non) S := z_ix_at (atI_lt h0 h)
theorem z_ixt_lt {ds : List D} {i : Int} {S : MS} {Q : KV2} (h0 : 0 ≤ i) (h : i < ds.length) : wIx (.tup ds) (.int i) S Q ↔ Q (ds.getD i.toNat .non) S := z_ixt_at (atI_lt h0 h)
theorem z_add_int {i j : Int} {m : Bool} {S : MS} {Q : KV2} : wAdd m (.int i) (.int j) S Q ↔ Q (.int (i + j)) S := Iff.rfl
theorem z_add_tup {i j : List D} {m : Bool} {S : MS} {Q : KV2} : wAdd m (.tup i) (.tup j) S Q ↔ i.length + j.length ≤ sizeLine ∧ Q (.tup (i ++ j)) S := Iff.rfl
theorem z_add_lst {i j : List D} {m : Bool} {S : MS} {Q : KV2} : wAdd m (.lst i) (.lst j) S Q ↔ i.length + j.length ≤ sizeLine ∧ newL m (i ++ j) S Q := Iff.rfl
theorem z_add_str {i j : Str} {m : Bool} {S : MS} {Q : KV2} : wAdd m (.str i) (.str j) S Q ↔ i.length + j.length ≤ sizeLine ∧ Q (.str (i ++ j)) S := Iff.rfl
theorem z_mul_int {i j : Int} {m : Bool} {S : MS} {Q : KV2} : wMul m (.int i) (.int j) S Q ↔ CMul i j ∧ Q (.int (i * j)) S := Iff.rfl
theorem z_mul_tup {xs : List D} {k : Int} {m : Bool} {S : MS} {Q : KV2} : wMul m (.tup xs) (.int k) S Q ↔ (1 ≤ k ∧ k ≤ 1000 ∧ xs.length ≤ 1000) ∧ Q (.tup (List.replicate k.toNat xs).flatten) S := Iff.rfl
theorem z_mul_lst {xs : List D} {k : Int} {m : Bool} {S : MS} {Q : KV2} : wMul m (.lst xs) (.int k) S Q ↔ (-(2 ^ 63) ≤ k ∧ k < 2 ^ 63 ∧ xs.length * k.toNat ≤ sizeLine) ∧ newL m (List.replicate k.toNat xs).flatten S Q := Iff.rfl
theorem z_ib_int {g : Int → Int → Bool} {i j : Int} {S : MS} {Q : KV2} : wIB g (.int i) (.int j) S Q ↔ Q (.bl (g i j)) S := Iff.rfl
theorem z_ii_int {C : Int → Int → Prop} {g : Int → Int → Int} {i j : Int} {S : MS} {Q : KV2} : wII C g (.int i) (.int j) S Q ↔ C i j ∧ Q (.int (g i j)) S := Iff.rfl
theorem z_neg_int {i : Int} {S : MS} {Q : KV2} : wNeg (.int i) S Q ↔ Q (.int (-i)) S := Iff.rfl
theorem z_len_lst {ds : List D} {S : MS} {Q : KV2} : cLen (.lst ds) S Q ↔ Q (.int ds.length) S := Iff.rfl
theorem z_len_tup {ds : List D} {S : MS} {Q : KV2} : cLen (.tup ds) S Q ↔ Q (.int ds.length) S := Iff.rfl
theorem z_len_str {z : Str} {S : MS} {Q : KV2} : cLen (.str z) S Q ↔ z.length ≤ sizeLine ∧ Q (.int z.length) S := Iff.rfl
theorem z_abs_int {i : Int} {S : MS} {Q : KV2} : cAbs (.int i) S Q ↔ Q (.int (if i < 0 then -i else i)) S := Iff.rfl
theorem z_int_int {i : Int} {S : MS} {Q : KV2} : cInt (.int i) S Q ↔ Q (.int i) S := Iff.rfl
theorem z_cii_int {g : Int → Int → Int} {i j : Int} {S : MS} {Q : KV2} : cII g (.int i) (.int j) S Q ↔ Q (.int (g i j)) S := Iff.rfl
theorem z_tuple_lst {ds : List D} {S : MS} {Q : KV2} : cTuple (.lst ds) S Q ↔ Q (.tup ds) S := Iff.rfl
theorem z_tuple_tup {ds : List D} {S : MS} {Q : KV2} : cTuple (.tup ds) S Q ↔ Q (.tup ds) S := Iff.rfl
theorem z_list_lst {m : Bool} {ds : List D} {S : MS} {Q : KV2} : cList m (.lst ds) S Q ↔ newL m ds S Q := Iff.rfl
theorem z_list_tup {m : Bool} {ds : List D} {S : MS} {Q : KV2} : cList m (.tup ds) S Q ↔ newL m ds S Q := Iff.rfl
theorem z_cut_lst {m : Bool} {lo hi : Option Int} {ds : List D} {S : MS} {Q : KV2} : wCut m lo hi (.lst ds) S Q ↔ newL m (cutD ds lo hi) S Q := Iff.rfl
theorem z_cut_tup {m : Bool} {lo hi : Option Int} {ds : List D} {S : MS} {Q : KV2} : wCut m lo hi (.tup ds) S Q ↔ Q (.tup (cutD ds lo hi)) S := Iff.rfl
theorem z_rev_lst {m : Bool} {ds : List D} {S : MS} {Q : KV2} : cRev m (.lst ds) S Q ↔ newL m ds.reverse S Q := Iff.rfl
theorem z_rev_tup {m : Bool} {ds : List D} {S : MS} {Q : KV2} : cRev m (.tup ds) S Q ↔ Q (.tup ds.reverse) S := Iff.rfl
theorem z_isN_ {x : D} {S : MS} {Q : KV2} : wIsN x .non S Q ↔ Q (.bl (isNon x)) S := by cases x <;> exact Iff.rfl
theorem z_notN_ {x : D} {S : MS} {Q : KV2} : wNotN x .non S Q ↔ Q (.bl (!isNon x)) S := by cases x <;> exact Iff.rfl
theorem z_isB_ {a b : Bool} {S : MS} {Q : KV2} : wIsB (.bl a) (.bl b) S Q ↔ Q (.bl (decide (a = b))) S := Iff.rfl
theorem z_notB_ {a b : Bool} {S : MS} {Q : KV2} : wNotB (.bl a) (.bl b) S Q ↔ Q (.bl (!decide (a = b))) S := Iff.rfl
theorem z_w1_ {f : D → MS → KV2 → Prop} {d : D} {S : MS} {Q : KV2} : w1 f [d] S Q ↔ f (rd S d) S Q := Iff.rfl
theorem z_w2_ {f : D → D → MS → KV2 → Prop} {d e : D} {S : MS} {Q : KV2} : w2 f [d, e] S Q ↔ f (rd S d) (rd S e) S Q := Iff.rfl
theorem z_in_lst {neg : Bool} {x : D} {ds : List D} {S : MS} {Q : KV2} : wIn neg x (.lst ds) S Q ↔ flatD x = true ∧ ds.all flatD = true ∧ Q (.bl (if neg then !inD x ds else inD x ds)) S := by cases x <;> exact Iff.rfl
theorem z_in_tup {neg : Bool} {x : D} {ds : List D} {S : MS} {Q : KV2} : wIn neg x (.tup ds) S Q ↔ flatD x = true ∧ ds.all flatD = true ∧ Q (.bl (if neg then !inD x ds else inD x ds)) S := by cases x <;> exact Iff.rfl
theorem z_isK_int_int {i : Int} : isK .int (.int i) = true := rfl
theorem z_isK_int_bl {i : Bool} : isK .int (.bl i) = true := rfl
theorem z_isK_int_str {i : Str} : isK .int (.str i) = false := rfl
theorem z_isK_int_tup {i : List D} : isK .int (.tup i) = false := rfl
theorem z_isK_int_lst {i : List D} : isK .int (.lst i) = false := rfl
theorem z_isK_int_dic {k : List Key} {i : List D} : isK .int (.dic k i) = false := rfl
theorem z_isK_int_non : isK .int .non = false := rfl
theorem z_isK_bool_int {i : Int} : isK .bool (.int i) = false := rfl
theorem z_isK_bool_bl {i : Bool} : isK .bool (.bl i) = true := rfl
theorem z_isK_bool_str {i : Str} : isK .bool (.str i) = false := rfl
theorem z_isK_bool_tup {i : List D} : isK .bool (.tup i) = false := rfl
theorem z_isK_bool_lst {i : List D} : isK .bool (.lst i) = false := rfl
theorem z_isK_bool_dic {k : List Key} {i : List D} : isK .bool (.dic k i) = false := rfl
theorem z_isK_bool_non : isK .bool .non = false := rfl
theorem z_isK_str_int {i : Int} : isK .str (.int i) = false := rfl
theorem z_isK_str_bl {i : Bool} : isK .str (.bl i) = false := rfl
theorem z_isK_str_str {i : Str} : isK .str (.str i) = true := rfl
theorem z_isK_str_tup {i : List D} : isK .str (.tup i) = false := rfl
theorem z_isK_str_lst {i : List D} : isK .str (.lst i) = false := rfl
theorem z_isK_str_dic {k : List Key} {i : List D} : isK .str (.dic k i) = false := rfl
theorem z_isK_str_non : isK .str .non = false := rfl
theorem z_isK_tuple_int {i : Int} : isK .tuple (.int i) = false := rfl
theorem z_isK_tuple_bl {i : Bool} : isK .tuple (.bl i) = false := rfl
theorem z_isK_tuple_str {i : Str} : isK .tuple (.str i) = false := rfl
theorem z_isK_tuple_tup {i : List D} : isK .tuple (.tup i) = true := rfl
theorem z_isK_tuple_lst {i : List D} : isK .tuple (.lst i) = false := rfl
theorem z_isK_tuple_dic {k : List Key} {i : List D} : isK .tuple (.dic k i) = false := rfl
theorem z_isK_tuple_non : isK .tuple .non = false := rfl
theorem z_isK_list_int {i : Int} : isK .list (.int i) = false := rfl
theorem z_isK_list_bl {i : Bool} : isK .list (.bl i) = false := rfl
theorem z_isK_list_str {i : Str} : isK .list (.str i) = false := rfl
theorem z_isK_list_tup {i : List D} : isK .list (.tup i) = false := rfl
theorem z_isK_list_lst {i : List D} : isK .list (.lst i) = true := rfl
theorem z_isK_list_dic {k : List Key} {i : List D} : isK .list (.dic k i) = false := rfl
theorem z_isK_list_non : isK .list .non = false := rfl
theorem z_isK_dict_int {i : Int} : isK .dict (.int i) = false := rfl
theorem z_isK_dict_bl {i : Bool} : isK .dict (.bl i) = false := rfl
theorem z_isK_dict_str {i : Str} : isK .dict (.str i) = false := rfl
theorem z_isK_dict_tup {i : List D} : isK .dict (.tup i) = false := rfl
theorem z_isK_dict_lst {i : List D} : isK .dict (.lst i) = false := rfl
theorem z_isK_dict_dic {k : List Key} {i : List D} : isK .dict (.dic k i) = true := rfl
theorem z_isK_dict_non : isK .dict .non = false := rfl
theorem z_items_lst {S : MS} {ds : List D} : itemsOf S (.lst ds) = some (ds, noG) := rfl
theorem z_items_tup {S : MS} {ds : List D} : itemsOf S (.tup ds) = some (ds, noG) := rfl
theorem z_items_ref {S : MS} {a : Addr} {ds : List D} (h : S a = some (.lst ds)) : itemsOf S (.ref a) = some (ds, fun S' => S' a = some (.lst ds)) := by
  simp only [itemsOf, h]
theorem z_tyd_lst {ds : List D} : TyD "list" (.lst ds) ↔ True := ⟨fun _ => trivial, fun _ => rfl⟩
theorem z_rd_set {S : MS} {a : Addr} {ds : List D} : rd (S.set a (.lst ds)) (.ref a) = .lst ds := rd_ref MS.set_same
theorem z_rd_opt {S : MS} {t c : Addr} {ds : List D} {cs : List Int} (h : c ≠ t) : rd (opened S t c ds cs) (.ref t) = .lst ds := rd_ref (by unfold opened; rw [MS.set_ne (Ne.symm h), MS.set_same])
theorem z_rd_opc {S : MS} {t c : Addr} {ds : List D} {cs : List Int} : rd (opened S t c ds cs) (.ref c) = .lst (cs.map D.int) := rd_ref MS.set_same
theorem op_t {S : MS} {t c : Addr} {ds : List D} {cs : List Int} (h : c ≠ t) : (opened S t c ds cs) t = some (.lst ds) := by unfold opened; rw [MS.set_ne (Ne.symm h), MS.set_same]
theorem op_set {S : MS} {t c : Addr} {ds es : List D} {cs : List Int} (h : c ≠ t) : (opened S t c ds cs).set t (.lst es) = opened S t c es cs := by
  unfold opened
  rw [MS.set_comm h, MS.set_set]
theorem setL_op {S : MS} {t c : Addr} {ds : List D} {cs : List Int} {k : Int} {v : D} {Q : MS → Prop} {j : Nat} (h : c ≠ t) (hj : ixN ds.length k = some j) (q : Q (opened S t c (ds.set j v) cs)) : wSetL (.ref t) (.int k) v (opened S t c ds cs) Q :=
  ⟨t, ds, k, j, rfl, rfl, op_t h, hj, by rw [op_set h]; exact q⟩
theorem setL_op_iff {S : MS} {t c : Addr} {ds : List D} {cs : List Int} {k : Int} {v : D} {Q : MS → Prop} {j : Nat} (h : c ≠ t) (hj : ixN ds.length k = some j) : wSetL (.ref t) (.int k) v (opened S t c ds cs) Q ↔ Q (opened S t c (ds.set j v) cs) := by
  refine ⟨fun ⟨a, es, k', j', e1, e2, e3, e4, q⟩ => ?_, setL_op h hj⟩
  cases e1
  cases e2
  rw [op_t h] at e3
  cases e3
  rw [hj] at e4
  cases e4
  rw [op_set h] at q
  exact q
theorem z_app_iff {S : MS} {a : Addr} {ds : List D} {d : D} {Q : KV2} (h : S a = some (.lst ds)) : wAppend (.ref a) [d] S Q ↔ ds.length < sizeLine ∧ Q .non (S.set a (.lst (ds ++ [d]))) := by
  refine ⟨fun ⟨b, es, x, e1, e2, e3, q⟩ => ?_, fun q => ⟨a, ds, d, rfl, rfl, h, q⟩⟩
  cases e1
  cases e2
  rw [h] at e3
  cases e3
  exact q
theorem cutD_to {xs : List D} {k : Int} (h : 0 ≤ k) : cutD xs none (some k) = xs.take k.toNat := by
  simp only [cutD, HT.sIx]
  rw [if_neg (by omega), List.drop_zero, Nat.sub_zero, Nat.min_def]
  by_cases h1 : k.toNat ≤ xs.length
  · rw [if_pos h1]
  · rw [if_neg h1, List.take_of_length_le (Nat.le_refl _), List.take_of_length_le (by omega)]
theorem cutD_from {xs : List D} {k : Int} (h : 0 ≤ k) : cutD xs (some k) none = xs.drop k.toNat := by
  simp only [cutD, HT.sIx]
  rw [if_neg (by omega), Nat.min_def]
  by_cases h1 : k.toNat ≤ xs.length
  · rw [if_pos h1, List.take_of_length_le (by rw [List.length_drop]; exact Nat.le_refl _)]
  · rw [if_neg h1, List.drop_length, List.drop_eq_nil_of_le (by omega)]
    simp
theorem cutD_init {xs : List D} : cutD xs none (some (-1)) = xs.dropLast := by
  simp only [cutD, HT.sIx]
  rw [if_pos (by decide), List.drop_zero, Nat.sub_zero, List.dropLast_eq_take]
  congr 1
  omega
theorem pus_take {xs : List D} (n : Nat) (h : pus xs = true) : pus (xs.take n) = true := pus_iff.mpr fun d hd => pus_mem h (List.mem_of_mem_take hd)
theorem pus_drop {xs : List D} (n : Nat) (h : pus xs = true) : pus (xs.drop n) = true := pus_iff.mpr fun d hd => pus_mem h (List.mem_of_mem_drop hd)
theorem pus_cut {xs : List D} {lo hi : Option Int} (h : pus xs = true) : pus (cutD xs lo hi) = true := pus_take _ (pus_drop _ h)
theorem pus_rev {xs : List D} (h : pus xs = true) : pus xs.reverse = true := pus_iff.mpr fun d hd => pus_mem h (List.mem_reverse.mp hd)
theorem pus_rep {xs : List D} {n : Nat} (h : pus xs = true) : pus (List.replicate n xs).flatten = true := pus_iff.mpr fun d hd => by
  obtain ⟨l, hl, hd⟩ := List.mem_flatten.mp hd
  rw [List.eq_of_mem_replicate hl] at hd
  exact pus_mem h hd
theorem pus_app {xs ys : List D} (h : pus xs = true) (g : pus ys = true) : pus (xs ++ ys) = true := by rw [pus_append, h, g]; rfl
theorem cutD_len (xs : List D) (lo hi : Option Int) : (cutD xs lo hi).length ≤ xs.length := by
  unfold cutD
  rw [List.length_take, List.length_drop]
  omega
theorem rep_len {α : Type} (n : Nat) (xs : List α) : (List.replicate n xs).flatten.length = n * xs.length := by simp
theorem rd_set_ne {S : MS} {a b : Addr} {m : MO} (h : a ≠ b) : rd (S.set b m) (.ref a) = rd S (.ref a) := by
  show rdM a ((S.set b m) a) = rdM a (S a)
  rw [MS.set_ne h]
theorem getD_map_int {l : List Int} {i : Nat} (h : i < l.length) : (l.map D.int).getD i .non = .int (l.getD i 0) := by
  rw [List.getD_eq_getElem?_getD, List.getD_eq_getElem?_getD, List.getElem?_map, List.getElem?_eq_getElem h]
  rfl
theorem map_eraseIdx {α β : Type} (f : α → β) (l : List α) (i : Nat) : (l.map f).eraseIdx i = (l.eraseIdx i).map f := by
  rw [List.eraseIdx_eq_take_drop_succ, List.eraseIdx_eq_take_drop_succ, List.map_append, List.map_take, List.map_drop]
theorem perm_erase {α : Type} {l : List α} {i : Nat} (h : i < l.length) : ([l[i]] ++ l.eraseIdx i).Perm l := by
  rw [List.eraseIdx_eq_take_drop_succ]
  refine (List.perm_middle (l₁ := l.take i)).symm.trans ?_
  rw [← List.drop_eq_getElem_cons h, List.take_append_drop]
theorem perm_of_nodup {is : List Int} {n : Nat} (h1 : is.Nodup) (h2 : ∀ l ∈ is, 0 ≤ l ∧ l < n) (h3 : is.length = n) : is.Perm ((List.range n).map fun (i : Nat) => (i : Int)) := by
  have hr : ((List.range n).map fun (i : Nat) => (i : Int)).Nodup := by
    rw [List.nodup_iff_pairwise_ne, List.pairwise_map]
    exact List.Pairwise.imp (fun h => by omega) List.pairwise_lt_range
  have hm : ∀ a : Int, a ∈ ((List.range n).map fun (i : Nat) => (i : Int)) ↔ 0 ≤ a ∧ a < n := fun a => by
    constructor
    · intro h
      obtain ⟨i, hi, rfl⟩ := List.mem_map.mp h
      have := List.mem_range.mp hi
      omega
    · intro h
      exact List.mem_map.mpr ⟨a.toNat, List.mem_range.mpr (by omega), by omega⟩
  refine (List.perm_ext_iff_of_nodup h1 hr).mpr fun a => ⟨fun h => (hm a).mpr (h2 a h), fun h => ?_⟩
  refine Classical.byContradiction fun hn => ?_
  have h4 : (a :: is).Nodup := List.nodup_cons.mpr ⟨hn, h1⟩
  have h5 := List.Nodup.length_le_of_subset h4 (l₂ := (List.range n).map fun (i : Nat) => (i : Int)) fun x hx => by
    rcases List.mem_cons.mp hx with e | e
    · rw [e]; exact h
    · exact (hm x).mpr (h2 x e)
  rw [List.length_cons, List.length_map, List.length_range, h3] at h5
  omega
theorem inD_ints {l : Int} {is : List Int} : inD (.int l) (is.map D.int) = decide (l ∈ is) := by
  unfold inD
  rw [List.any_map]
  induction is with
  | nil => rfl
  | cons a is ih =>
    rw [List.any_cons, ih]
    show (eqD (.int a) (.int l) || decide (l ∈ is)) = _
    rw [eqD_int]
    by_cases e : a = l
    · simp [e]
    · simp [e, Ne.symm e, eq_comm]
theorem flat_ints {is : List Int} : (is.map D.int).all flatD = true := by
  rw [List.all_map]
  exact List.all_eq_true.mpr fun _ _ => rfl
theorem flat_int {i : Int} : flatD (.int i) = true := rfl
theorem rangeD_mem {lo : Int} {n : Nat} {d : D} (h : d ∈ rangeD lo n) : ∃ i : Nat, i < n ∧ d = .int (lo + (i : Nat)) := by
  obtain ⟨i, hi, rfl⟩ := List.mem_map.mp h
  exact ⟨i, List.mem_range.mp hi, rfl⟩
theorem pus_repl {d : D} {n : Nat} (h : pu d = true) : pus (List.replicate n d) = true := pus_iff.mpr fun x hx => by
  rw [List.eq_of_mem_replicate hx]
  exact h
end DL
/-! DL13: the head: what the top leaves, no list among it; the law's promise. -/
namespace DL
open PySem PySem.Spec PyProof.Rows L2
def frN (g : Addr → Option Obj) (as : List Addr) : PySem.W.Frag := (He.frG g as).filter fun p => !(p.2.cls == Value.type "list")
theorem lookup_mem {α β : Type} [BEq α] [LawfulBEq α] {b : α} {o : β} : ∀ {l : List (α × β)}, l.lookup b = some o → (b, o) ∈ l
  | [], h => by cases h
  | (a, c) :: l, h => by
    rw [List.lookup_cons] at h
    by_cases e : (b == a) = true
    · rw [e] at h
      cases h
      rw [eq_of_beq e]
      exact List.mem_cons_self
    · rw [Bool.eq_false_iff.mpr e] at h
      exact List.mem_cons_of_mem _ (lookup_mem h)
theorem frN_in {g : Addr → Option Obj} {as : List Addr} {b : Addr} {o : Obj} (h : (frN g as).lookup b = some o) : g b = some o ∧ (o.cls == Value.type "list") = false := by
  have m := lookup_mem h
  obtain ⟨m1, m2⟩ := List.mem_filter.mp m
  obtain ⟨a, _, e⟩ := List.mem_filterMap.mp m1
  cases hg : g a with
  | none => rw [hg] at e; cases e
  | some u =>
    rw [hg] at e
    cases e
    exact ⟨hg, by simpa using m2⟩
def NoL (K : PySem.W.Frag) : Prop := ∀ b o, K.lookup b = some o → (o.cls == Value.type "list") = false
def obsN (n : Nat) (fa : List He.Fa) (fn : List He.DefD) (g : Addr → Option Obj) : He.AlD := He.obsD fa fn (frN g (He.asD g n))
def hookN (n : Nat) (fa : List He.Fa) (fn : List He.DefD) : PySem.W.Hook where
  α := He.AlD
  obs := fun s => obsN n fa fn s.heap.get?
  val := fun _ => He.valD fn
  says := fun _ h => ∃ K : PySem.W.Frag, K.In h ∧ He.SaysD fa fn K ∧ NoL K
  of := fun _ _ e => ⟨_, fun b o h => (frN_in h).1, e, fun b o h => (frN_in h).2⟩
  keeps := fun _ _ _ ⟨K, hK, c⟩ k => ⟨K, PySem.W.Frag.In.keeps hK k, c⟩
theorem obsN_eq {n : Nat} {fa : List He.Fa} {fn : List He.DefD} {g : Addr → Option Obj} {s : Shared} (h : ∀ a, g a = s.heap.get? a) : obsN n fa fn g = (hookN n fa fn).obs s := by
  have e : g = s.heap.get? := funext h
  rw [e] <;> rfl
/-- the law's promise: any script in, True out -/
def lawSp (n : Nat) : DSp := fun ds S Q _ => ∃ ns : List Int, ds = [.lst (ns.map D.int)] ∧ ns.length ≤ n ∧ (∀ a, S a = none) ∧ Q (.bl true) S
theorem law_sp {K : PySem.W.Frag} {n : Nat} {sp : DSp} (hsp : ∀ ds S Q E, lawSp n ds S Q E → sp ds S Q E) (nl : NoL K) {H : Hp} {a : Addr} {ns : List Int} (hl : ns.length ≤ n) (hS : SqL K H a (ns.map V.int)) :
    spD K sp [.ref a] H (fun v _ => v = .bl true) fun _ _ _ => False := by
  have hr : Rd H a (.lst (ns.map V.int)) := by
    rcases hS with h | ⟨o, its, k, lk, hc, _⟩
    · exact h
    · have := nl a o lk
      rw [hc] at this
      exact absurd this (by decide)
  refine ⟨[.lst (ns.map D.int)], H, fun _ => none, fun d _ => d = .bl true, fun _ _ _ => False, ⟨fun _ _ h => h, (by intro a m h; cases h), (by intro a b m n h; cases h)⟩, .cons (.lst hr (.of_ints ns)) .nil, hsp _ _ _ _ ⟨ns, rfl, hl, fun _ => rfl, rfl⟩, ?_, fun _ _ _ _ _ _ _ _ _ _ h => h.elim⟩
  rintro v H' d F' S' _ _ r rfl
  cases r
  rfl
theorem walk_law {l : PySem.W.OpenLaw} {n m k : Nat} {q : Program} {loose : List Str} {XP : (Str → Option Value) → Heap → Prop} {d : DefRec} {fa : List He.Fa} {fn : List He.DefD} {sp : DSp} (hn : l.most = some n) (hn2 : n ≤ sizeLine) (hdf : d.params.defaults = []) (hr : Room k callerA) (hd : d.name = ("law" : Str))
    (hsp : ∀ ds S Q E, lawSp n ds S Q E → sp ds S Q E)
    (D : ∀ (w : World) (K : PySem.W.Frag) (mg : Str → Option Value) (h : Heap), K.In h → h.Ns mainGlobals mg → He.SaysD fa fn K → ∃ f fd, mg "law" = some (.ref f) ∧ (∀ (s : Shared) (u : Value), BindsTo s fd ⟨[u], []⟩ [("script", u)]) ∧ ∀ base : Heap, FnOk l.prog w K mg base CX0 k f fd ["script"] (spD K sp)) :
    PySem.W.WalkO q loose XP (hookN m fa fn).says l.row.toRowW d [] (fun f vs => PySem.call f vs) := by
  refine L2.walk_ofE (n := n) (k := k) (x := "script") (CX := L2.CX0) hn hn2 hdf hr ?_ (fun _ _ _ _ z => z)
  intro w mg fa' h Y G hmg
  obtain ⟨K, KX, c, nl⟩ := Y
  rw [hd] at hmg
  obtain ⟨f, fd, hm, hb, hF⟩ := D w K mg h KX G c
  rw [hm] at hmg
  cases hmg
  exact ⟨K, fd, spD K sp, KX, hb, fun H a ns hl _ hS => law_sp hsp nl hl hS, fun base _ _ => hF base⟩
end DL
namespace W38
open PySem PySem.Spec PyProof.Rows L2 DL
def topS (i : Nat) : Stmt := PySem.Challenge.pw_layertold_k38_whole_screens_judged_and_p.main.body.getD i (.Pass ⟨0, 0, 0, 0⟩)
abbrev s_is_integer : Stmt := topS 1
abbrev s_is_within : Stmt := topS 2
abbrev s_is_tuple : Stmt := topS 3
abbrev s_check_count : Stmt := topS 11
abbrev s_is_state : Stmt := topS 14
abbrev s_is_screen_of : Stmt := topS 15
abbrev s_is_screen : Stmt := topS 16
abbrev s_passing : Stmt := topS 17
abbrev s_is_order_of : Stmt := topS 18
abbrev s_passes_screen : Stmt := topS 19
abbrev s__law_hand : Stmt := topS 21
abbrev s__law_draw : Stmt := topS 22
abbrev s__law_some : Stmt := topS 23
abbrev s__law_is : Stmt := topS 24
abbrev s__law_int : Stmt := topS 25
abbrev s__law_shuffled : Stmt := topS 26
abbrev s__law_screen : Stmt := topS 27
abbrev s__law_is_screen : Stmt := topS 28
abbrev s__law_passes : Stmt := topS 29
abbrev s__law_bent : Stmt := topS 30
abbrev s__law_orders : Stmt := topS 31
abbrev s_law : Stmt := topS 32
def fa : List He.Fa := [.glo "is_integer", .glo "is_within", .glo "is_tuple", .glo "check_count", .glo "is_state", .glo "is_screen_of", .glo "is_screen", .glo "passing", .glo "is_order_of", .glo "passes_screen", .glo "_law_hand", .glo "_law_draw", .glo "_law_some", .glo "_law_is", .glo "_law_int", .glo "_law_shuffled", .glo "_law_screen", .glo "_law_is_screen", .glo "_law_passes", .glo "_law_bent", .glo "_law_orders", .glo "law", .int "MOST_COUNT" 16, .int "MOST_STATES" 3000, .free "abs", .free "all", .free "bool", .free "enumerate", .free "int", .free "isinstance", .free "len", .free "list", .free "min", .free "range", .free "sorted", .free "str", .free "tuple", .free "zip"]
def d_is_integer : He.DefD := ⟨("is_integer", none), "is_integer", "is_integer", defArgs s_is_integer, defBody s_is_integer, defScope s_is_integer, [], []⟩
def d_is_within : He.DefD := ⟨("is_within", none), "is_within", "is_within", defArgs s_is_within, defBody s_is_within, defScope s_is_within, [], []⟩
def d_is_tuple : He.DefD := ⟨("is_tuple", none), "is_tuple", "is_tuple", defArgs s_is_tuple, defBody s_is_tuple, defScope s_is_tuple, [], []⟩
def d_check_count : He.DefD := ⟨("check_count", none), "check_count", "check_count", defArgs s_check_count, defBody s_check_count, defScope s_check_count, [], []⟩
def d_is_state : He.DefD := ⟨("is_state", none), "is_state", "is_state", defArgs s_is_state, defBody s_is_state, defScope s_is_state, [], []⟩
def d_is_screen_of : He.DefD := ⟨("is_screen_of", none), "is_screen_of", "is_screen_of", defArgs s_is_screen_of, defBody s_is_screen_of, defScope s_is_screen_of, [], []⟩
def d_is_screen : He.DefD := ⟨("is_screen", none), "is_screen", "is_screen", defArgs s_is_screen, defBody s_is_screen, defScope s_is_screen, [], []⟩
def d_passing : He.DefD := ⟨("passing", none), "passing", "passing", defArgs s_passing, defBody s_passing, defScope s_passing, [], []⟩
def d_is_order_of : He.DefD := ⟨("is_order_of", none), "is_order_of", "is_order_of", defArgs s_is_order_of, defBody s_is_order_of, defScope s_is_order_of, [], []⟩
def d_passes_screen : He.DefD := ⟨("passes_screen", none), "passes_screen", "passes_screen", defArgs s_passes_screen, defBody s_passes_screen, defScope s_passes_screen, [], []⟩
def d__law_hand : He.DefD := ⟨("_law_hand", none), "_law_hand", "_law_hand", defArgs s__law_hand, defBody s__law_hand, defScope s__law_hand, [], []⟩
def d__law_draw : He.DefD := ⟨("_law_draw", none), "_law_draw", "_law_draw", defArgs s__law_draw, defBody s__law_draw, defScope s__law_draw, [], []⟩
def d__law_some : He.DefD := ⟨("_law_some", none), "_law_some", "_law_some", defArgs s__law_some, defBody s__law_some, defScope s__law_some, [], []⟩
def d__law_is : He.DefD := ⟨("_law_is", none), "_law_is", "_law_is", defArgs s__law_is, defBody s__law_is, defScope s__law_is, [], []⟩
def d__law_int : He.DefD := ⟨("_law_int", none), "_law_int", "_law_int", defArgs s__law_int, defBody s__law_int, defScope s__law_int, [], []⟩
def d__law_shuffled : He.DefD := ⟨("_law_shuffled", none), "_law_shuffled", "_law_shuffled", defArgs s__law_shuffled, defBody s__law_shuffled, defScope s__law_shuffled, [], []⟩
def d__law_screen : He.DefD := ⟨("_law_screen", none), "_law_screen", "_law_screen", defArgs s__law_screen, defBody s__law_screen, defScope s__law_screen, [], []⟩
def d__law_is_screen : He.DefD := ⟨("_law_is_screen", none), "_law_is_screen", "_law_is_screen", defArgs s__law_is_screen, defBody s__law_is_screen, defScope s__law_is_screen, [], []⟩
def d__law_passes : He.DefD := ⟨("_law_passes", none), "_law_passes", "_law_passes", defArgs s__law_passes, defBody s__law_passes, defScope s__law_passes, [], []⟩
def d__law_bent : He.DefD := ⟨("_law_bent", none), "_law_bent", "_law_bent", defArgs s__law_bent, defBody s__law_bent, defScope s__law_bent, [], []⟩
def d__law_orders : He.DefD := ⟨("_law_orders", none), "_law_orders", "_law_orders", defArgs s__law_orders, defBody s__law_orders, defScope s__law_orders, [], []⟩
def d_law : He.DefD := ⟨("law", none), "law", "law", defArgs s_law, defBody s_law, defScope s_law, [], []⟩
def fn : List He.DefD := [d_is_integer, d_is_within, d_is_tuple, d_check_count, d_is_state, d_is_screen_of, d_is_screen, d_passing, d_is_order_of, d_passes_screen, d__law_hand, d__law_draw, d__law_some, d__law_is, d__law_int, d__law_shuffled, d__law_screen, d__law_is_screen, d__law_passes, d__law_bent, d__law_orders, d_law]
structure Al (K : PySem.W.Frag) (mg : Str → Option Value) : Prop where
  says : He.SaysD fa fn K
  hp : ∃ h : Heap, K.In h ∧ h.Ns mainGlobals mg
section
variable {K : PySem.W.Frag} {mg : Str → Option Value}
theorem Al.g_is_integer (A : Al K mg) : mg "is_integer" = some (.ref (He.ga K "is_integer")) := let ⟨_, X, G⟩ := A.hp; He.glo_ok X G (A.says.fact 0 (f := .glo "is_integer") rfl)
theorem Al.g_is_within (A : Al K mg) : mg "is_within" = some (.ref (He.ga K "is_within")) := let ⟨_, X, G⟩ := A.hp; He.glo_ok X G (A.says.fact 1 (f := .glo "is_within") rfl)
theorem Al.g_is_tuple (A : Al K mg) : mg "is_tuple" = some (.ref (He.ga K "is_tuple")) := let ⟨_, X, G⟩ := A.hp; He.glo_ok X G (A.says.fact 2 (f := .glo "is_tuple") rfl)
theorem Al.g_check_count (A : Al K mg) : mg "check_count" = some (.ref (He.ga K "check_count")) := let ⟨_, X, G⟩ := A.hp; He.glo_ok X G (A.says.fact 3 (f := .glo "check_count") rfl)
theorem Al.g_is_state (A : Al K mg) : mg "is_state" = some (.ref (He.ga K "is_state")) := let ⟨_, X, G⟩ := A.hp; He.glo_ok X G (A.says.fact 4 (f := .glo "is_state") rfl)
theorem Al.g_is_screen_of (A : Al K mg) : mg "is_screen_of" = some (.ref (He.ga K "is_screen_of")) := let ⟨_, X, G⟩ := A.hp; He.glo_ok X G (A.says.fact 5 (f := .glo "is_screen_of") rfl)
theorem Al.g_is_screen (A : Al K mg) : mg "is_screen" = some (.ref (He.ga K "is_screen")) := let ⟨_, X, G⟩ := A.hp; He.glo_ok X G (A.says.fact 6 (f := .glo "is_screen") rfl)
theorem Al.g_passing (A : Al K mg) : mg "passing" = some (.ref (He.ga K "passing")) := let ⟨_, X, G⟩ := A.hp; He.glo_ok X G (A.says.fact 7 (f := .glo "passing") rfl)
theorem Al.g_is_order_of (A : Al K mg) : mg "is_order_of" = some (.ref (He.ga K "is_order_of")) := let ⟨_, X, G⟩ := A.hp; He.glo_ok X G (A.says.fact 8 (f := .glo "is_order_of") rfl)
theorem Al.g_passes_screen (A : Al K mg) : mg "passes_screen" = some (.ref (He.ga K "passes_screen")) := let ⟨_, X, G⟩ := A.hp; He.glo_ok X G (A.says.fact 9 (f := .glo "passes_screen") rfl)
theorem Al.g__law_hand (A : Al K mg) : mg "_law_hand" = some (.ref (He.ga K "_law_hand")) := let ⟨_, X, G⟩ := A.hp; He.glo_ok X G (A.says.fact 10 (f := .glo "_law_hand") rfl)
theorem Al.g__law_draw (A : Al K mg) : mg "_law_draw" = some (.ref (He.ga K "_law_draw")) := let ⟨_, X, G⟩ := A.hp; He.glo_ok X G (A.says.fact 11 (f := .glo "_law_draw") rfl)
theorem Al.g__law_some (A : Al K mg) : mg "_law_some" = some (.ref (He.ga K "_law_some")) := let ⟨_, X, G⟩ := A.hp; He.glo_ok X G (A.says.fact 12 (f := .glo "_law_some") rfl)
theorem Al.g__law_is (A : Al K mg) : mg "_law_is" = some (.ref (He.ga K "_law_is")) := let ⟨_, X, G⟩ := A.hp; He.glo_ok X G (A.says.fact 13 (f := .glo "_law_is") rfl)
theorem Al.g__law_int (A : Al K mg) : mg "_law_int" = some (.ref (He.ga K "_law_int")) := let ⟨_, X, G⟩ := A.hp; He.glo_ok X G (A.says.fact 14 (f := .glo "_law_int") rfl)
theorem Al.g__law_shuffled (A : Al K mg) : mg "_law_shuffled" = some (.ref (He.ga K "_law_shuffled")) := let ⟨_, X, G⟩ := A.hp; He.glo_ok X G (A.says.fact 15 (f := .glo "_law_shuffled") rfl)
theorem Al.g__law_screen (A : Al K mg) : mg "_law_screen" = some (.ref (He.ga K "_law_screen")) := let ⟨_, X, G⟩ := A.hp; He.glo_ok X G (A.says.fact 16 (f := .glo "_law_screen") rfl)
theorem Al.g__law_is_screen (A : Al K mg) : mg "_law_is_screen" = some (.ref (He.ga K "_law_is_screen")) := let ⟨_, X, G⟩ := A.hp; He.glo_ok X G (A.says.fact 17 (f := .glo "_law_is_screen") rfl)
theorem Al.g__law_passes (A : Al K mg) : mg "_law_passes" = some (.ref (He.ga K "_law_passes")) := let ⟨_, X, G⟩ := A.hp; He.glo_ok X G (A.says.fact 18 (f := .glo "_law_passes") rfl)
theorem Al.g__law_bent (A : Al K mg) : mg "_law_bent" = some (.ref (He.ga K "_law_bent")) := let ⟨_, X, G⟩ := A.hp; He.glo_ok X G (A.says.fact 19 (f := .glo "_law_bent") rfl)
theorem Al.g__law_orders (A : Al K mg) : mg "_law_orders" = some (.ref (He.ga K "_law_orders")) := let ⟨_, X, G⟩ := A.hp; He.glo_ok X G (A.says.fact 20 (f := .glo "_law_orders") rfl)
theorem Al.g_law (A : Al K mg) : mg "law" = some (.ref (He.ga K "law")) := let ⟨_, X, G⟩ := A.hp; He.glo_ok X G (A.says.fact 21 (f := .glo "law") rfl)
theorem Al.c_MOST_COUNT (A : Al K mg) : ∃ t, mg "MOST_COUNT" = some (.int 16 t) := let ⟨_, X, G⟩ := A.hp; He.int_ok X G (A.says.fact 22 (f := .int "MOST_COUNT" 16) rfl)
theorem Al.c_MOST_STATES (A : Al K mg) : ∃ t, mg "MOST_STATES" = some (.int 3000 t) := let ⟨_, X, G⟩ := A.hp; He.int_ok X G (A.says.fact 23 (f := .int "MOST_STATES" 3000) rfl)
theorem Al.b_abs (A : Al K mg) : mg "abs" = none := let ⟨_, X, G⟩ := A.hp; He.free_ok X G (A.says.fact 24 (f := .free "abs") rfl)
theorem Al.b_all (A : Al K mg) : mg "all" = none := let ⟨_, X, G⟩ := A.hp; He.free_ok X G (A.says.fact 25 (f := .free "all") rfl)
theorem Al.b_bool (A : Al K mg) : mg "bool" = none := let ⟨_, X, G⟩ := A.hp; He.free_ok X G (A.says.fact 26 (f := .free "bool") rfl)
theorem Al.b_enumerate (A : Al K mg) : mg "enumerate" = none := let ⟨_, X, G⟩ := A.hp; He.free_ok X G (A.says.fact 27 (f := .free "enumerate") rfl)
theorem Al.b_int (A : Al K mg) : mg "int" = none := let ⟨_, X, G⟩ := A.hp; He.free_ok X G (A.says.fact 28 (f := .free "int") rfl)
theorem Al.b_isinstance (A : Al K mg) : mg "isinstance" = none := let ⟨_, X, G⟩ := A.hp; He.free_ok X G (A.says.fact 29 (f := .free "isinstance") rfl)
theorem Al.b_len (A : Al K mg) : mg "len" = none := let ⟨_, X, G⟩ := A.hp; He.free_ok X G (A.says.fact 30 (f := .free "len") rfl)
theorem Al.b_list (A : Al K mg) : mg "list" = none := let ⟨_, X, G⟩ := A.hp; He.free_ok X G (A.says.fact 31 (f := .free "list") rfl)
theorem Al.b_min (A : Al K mg) : mg "min" = none := let ⟨_, X, G⟩ := A.hp; He.free_ok X G (A.says.fact 32 (f := .free "min") rfl)
theorem Al.b_range (A : Al K mg) : mg "range" = none := let ⟨_, X, G⟩ := A.hp; He.free_ok X G (A.says.fact 33 (f := .free "range") rfl)
theorem Al.b_sorted (A : Al K mg) : mg "sorted" = none := let ⟨_, X, G⟩ := A.hp; He.free_ok X G (A.says.fact 34 (f := .free "sorted") rfl)
theorem Al.b_str (A : Al K mg) : mg "str" = none := let ⟨_, X, G⟩ := A.hp; He.free_ok X G (A.says.fact 35 (f := .free "str") rfl)
theorem Al.b_tuple (A : Al K mg) : mg "tuple" = none := let ⟨_, X, G⟩ := A.hp; He.free_ok X G (A.says.fact 36 (f := .free "tuple") rfl)
theorem Al.b_zip (A : Al K mg) : mg "zip" = none := let ⟨_, X, G⟩ := A.hp; He.free_ok X G (A.says.fact 37 (f := .free "zip") rfl)
theorem fu_is_integer (A : Al K mg) : ∃ f fd, FunD K "is_integer" "is_integer" (defArgs s_is_integer) (defBody s_is_integer) (defScope s_is_integer) [] [] f fd ∧ mg "is_integer" = some (.ref f) ∧ Binds K fd ["thing"] [] := by
  obtain ⟨fd, F⟩ := A.says.def_ 0 (d := d_is_integer) rfl
  exact ⟨_, fd, F, A.g_is_integer, FunD.bindsN F fun _ _ _ _ _ _ us hl => match us, hl with | [_], _ => rfl⟩
theorem fu_is_within (A : Al K mg) : ∃ f fd, FunD K "is_within" "is_within" (defArgs s_is_within) (defBody s_is_within) (defScope s_is_within) [] [] f fd ∧ mg "is_within" = some (.ref f) ∧ Binds K fd ["thing", "low", "high"] [] := by
  obtain ⟨fd, F⟩ := A.says.def_ 1 (d := d_is_within) rfl
  exact ⟨_, fd, F, A.g_is_within, FunD.bindsN F fun _ _ _ _ _ _ us hl => match us, hl with | [_, _, _], _ => rfl⟩
theorem fu_is_tuple (A : Al K mg) : ∃ f fd, FunD K "is_tuple" "is_tuple" (defArgs s_is_tuple) (defBody s_is_tuple) (defScope s_is_tuple) [] [] f fd ∧ mg "is_tuple" = some (.ref f) ∧ Binds K fd ["thing", "least", "most"] [] := by
  obtain ⟨fd, F⟩ := A.says.def_ 2 (d := d_is_tuple) rfl
  exact ⟨_, fd, F, A.g_is_tuple, FunD.bindsN F fun _ _ _ _ _ _ us hl => match us, hl with | [_, _, _], _ => rfl⟩
theorem fu_check_count (A : Al K mg) : ∃ f fd, FunD K "check_count" "check_count" (defArgs s_check_count) (defBody s_check_count) (defScope s_check_count) [] [] f fd ∧ mg "check_count" = some (.ref f) ∧ Binds K fd ["count"] [] := by
  obtain ⟨fd, F⟩ := A.says.def_ 3 (d := d_check_count) rfl
  exact ⟨_, fd, F, A.g_check_count, FunD.bindsN F fun _ _ _ _ _ _ us hl => match us, hl with | [_], _ => rfl⟩
theorem fu_is_state (A : Al K mg) : ∃ f fd, FunD K "is_state" "is_state" (defArgs s_is_state) (defBody s_is_state) (defScope s_is_state) [] [] f fd ∧ mg "is_state" = some (.ref f) ∧ Binds K fd ["count", "at", "many", "thing"] [] := by
  obtain ⟨fd, F⟩ := A.says.def_ 4 (d := d_is_state) rfl
  exact ⟨_, fd, F, A.g_is_state, FunD.bindsN F fun _ _ _ _ _ _ us hl => match us, hl with | [_, _, _, _], _ => rfl⟩
theorem fu_is_screen_of (A : Al K mg) : ∃ f fd, FunD K "is_screen_of" "is_screen_of" (defArgs s_is_screen_of) (defBody s_is_screen_of) (defScope s_is_screen_of) [] [] f fd ∧ mg "is_screen_of" = some (.ref f) ∧ Binds K fd ["count", "thing"] [] := by
  obtain ⟨fd, F⟩ := A.says.def_ 5 (d := d_is_screen_of) rfl
  exact ⟨_, fd, F, A.g_is_screen_of, FunD.bindsN F fun _ _ _ _ _ _ us hl => match us, hl with | [_, _], _ => rfl⟩
theorem fu_is_screen (A : Al K mg) : ∃ f fd, FunD K "is_screen" "is_screen" (defArgs s_is_screen) (defBody s_is_screen) (defScope s_is_screen) [] [] f fd ∧ mg "is_screen" = some (.ref f) ∧ Binds K fd ["count", "thing"] [] := by
  obtain ⟨fd, F⟩ := A.says.def_ 6 (d := d_is_screen) rfl
  exact ⟨_, fd, F, A.g_is_screen, FunD.bindsN F fun _ _ _ _ _ _ us hl => match us, hl with | [_, _], _ => rfl⟩
theorem fu_passing (A : Al K mg) : ∃ f fd, FunD K "passing" "passing" (defArgs s_passing) (defBody s_passing) (defScope s_passing) [] [] f fd ∧ mg "passing" = some (.ref f) ∧ Binds K fd ["screen", "order"] [] := by
  obtain ⟨fd, F⟩ := A.says.def_ 7 (d := d_passing) rfl
  exact ⟨_, fd, F, A.g_passing, FunD.bindsN F fun _ _ _ _ _ _ us hl => match us, hl with | [_, _], _ => rfl⟩
theorem fu_is_order_of (A : Al K mg) : ∃ f fd, FunD K "is_order_of" "is_order_of" (defArgs s_is_order_of) (defBody s_is_order_of) (defScope s_is_order_of) [] [] f fd ∧ mg "is_order_of" = some (.ref f) ∧ Binds K fd ["count", "thing"] [] := by
  obtain ⟨fd, F⟩ := A.says.def_ 8 (d := d_is_order_of) rfl
  exact ⟨_, fd, F, A.g_is_order_of, FunD.bindsN F fun _ _ _ _ _ _ us hl => match us, hl with | [_, _], _ => rfl⟩
theorem fu_passes_screen (A : Al K mg) : ∃ f fd, FunD K "passes_screen" "passes_screen" (defArgs s_passes_screen) (defBody s_passes_screen) (defScope s_passes_screen) [] [] f fd ∧ mg "passes_screen" = some (.ref f) ∧ Binds K fd ["count", "screen", "order"] [] := by
  obtain ⟨fd, F⟩ := A.says.def_ 9 (d := d_passes_screen) rfl
  exact ⟨_, fd, F, A.g_passes_screen, FunD.bindsN F fun _ _ _ _ _ _ us hl => match us, hl with | [_, _, _], _ => rfl⟩
theorem fu__law_hand (A : Al K mg) : ∃ f fd, FunD K "_law_hand" "_law_hand" (defArgs s__law_hand) (defBody s__law_hand) (defScope s__law_hand) [] [] f fd ∧ mg "_law_hand" = some (.ref f) ∧ Binds K fd ["script"] [] := by
  obtain ⟨fd, F⟩ := A.says.def_ 10 (d := d__law_hand) rfl
  exact ⟨_, fd, F, A.g__law_hand, FunD.bindsN F fun _ _ _ _ _ _ us hl => match us, hl with | [_], _ => rfl⟩
theorem fu__law_draw (A : Al K mg) : ∃ f fd, FunD K "_law_draw" "_law_draw" (defArgs s__law_draw) (defBody s__law_draw) (defScope s__law_draw) [] [] f fd ∧ mg "_law_draw" = some (.ref f) ∧ Binds K fd ["hand", "limit"] [] := by
  obtain ⟨fd, F⟩ := A.says.def_ 11 (d := d__law_draw) rfl
  exact ⟨_, fd, F, A.g__law_draw, FunD.bindsN F fun _ _ _ _ _ _ us hl => match us, hl with | [_, _], _ => rfl⟩
theorem fu__law_some (A : Al K mg) : ∃ f fd, FunD K "_law_some" "_law_some" (defArgs s__law_some) (defBody s__law_some) (defScope s__law_some) [] [] f fd ∧ mg "_law_some" = some (.ref f) ∧ Binds K fd ["hand", "items"] [] := by
  obtain ⟨fd, F⟩ := A.says.def_ 12 (d := d__law_some) rfl
  exact ⟨_, fd, F, A.g__law_some, FunD.bindsN F fun _ _ _ _ _ _ us hl => match us, hl with | [_, _], _ => rfl⟩
theorem fu__law_is (A : Al K mg) : ∃ f fd, FunD K "_law_is" "_law_is" (defArgs s__law_is) (defBody s__law_is) (defScope s__law_is) [] [] f fd ∧ mg "_law_is" = some (.ref f) ∧ Binds K fd ["thing", "due"] [] := by
  obtain ⟨fd, F⟩ := A.says.def_ 13 (d := d__law_is) rfl
  exact ⟨_, fd, F, A.g__law_is, FunD.bindsN F fun _ _ _ _ _ _ us hl => match us, hl with | [_, _], _ => rfl⟩
theorem fu__law_int (A : Al K mg) : ∃ f fd, FunD K "_law_int" "_law_int" (defArgs s__law_int) (defBody s__law_int) (defScope s__law_int) [] [] f fd ∧ mg "_law_int" = some (.ref f) ∧ Binds K fd ["thing", "least", "most"] [] := by
  obtain ⟨fd, F⟩ := A.says.def_ 14 (d := d__law_int) rfl
  exact ⟨_, fd, F, A.g__law_int, FunD.bindsN F fun _ _ _ _ _ _ us hl => match us, hl with | [_, _, _], _ => rfl⟩
theorem fu__law_shuffled (A : Al K mg) : ∃ f fd, FunD K "_law_shuffled" "_law_shuffled" (defArgs s__law_shuffled) (defBody s__law_shuffled) (defScope s__law_shuffled) [] [] f fd ∧ mg "_law_shuffled" = some (.ref f) ∧ Binds K fd ["hand", "count"] [] := by
  obtain ⟨fd, F⟩ := A.says.def_ 15 (d := d__law_shuffled) rfl
  exact ⟨_, fd, F, A.g__law_shuffled, FunD.bindsN F fun _ _ _ _ _ _ us hl => match us, hl with | [_, _], _ => rfl⟩
theorem fu__law_screen (A : Al K mg) : ∃ f fd, FunD K "_law_screen" "_law_screen" (defArgs s__law_screen) (defBody s__law_screen) (defScope s__law_screen) [] [] f fd ∧ mg "_law_screen" = some (.ref f) ∧ Binds K fd ["hand", "count"] [] := by
  obtain ⟨fd, F⟩ := A.says.def_ 16 (d := d__law_screen) rfl
  exact ⟨_, fd, F, A.g__law_screen, FunD.bindsN F fun _ _ _ _ _ _ us hl => match us, hl with | [_, _], _ => rfl⟩
theorem fu__law_is_screen (A : Al K mg) : ∃ f fd, FunD K "_law_is_screen" "_law_is_screen" (defArgs s__law_is_screen) (defBody s__law_is_screen) (defScope s__law_is_screen) [] [] f fd ∧ mg "_law_is_screen" = some (.ref f) ∧ Binds K fd ["count", "thing"] [] := by
  obtain ⟨fd, F⟩ := A.says.def_ 17 (d := d__law_is_screen) rfl
  exact ⟨_, fd, F, A.g__law_is_screen, FunD.bindsN F fun _ _ _ _ _ _ us hl => match us, hl with | [_, _], _ => rfl⟩
theorem fu__law_passes (A : Al K mg) : ∃ f fd, FunD K "_law_passes" "_law_passes" (defArgs s__law_passes) (defBody s__law_passes) (defScope s__law_passes) [] [] f fd ∧ mg "_law_passes" = some (.ref f) ∧ Binds K fd ["thing", "order"] [] := by
  obtain ⟨fd, F⟩ := A.says.def_ 18 (d := d__law_passes) rfl
  exact ⟨_, fd, F, A.g__law_passes, FunD.bindsN F fun _ _ _ _ _ _ us hl => match us, hl with | [_, _], _ => rfl⟩
theorem fu__law_bent (A : Al K mg) : ∃ f fd, FunD K "_law_bent" "_law_bent" (defArgs s__law_bent) (defBody s__law_bent) (defScope s__law_bent) [] [] f fd ∧ mg "_law_bent" = some (.ref f) ∧ Binds K fd ["hand", "count", "thing"] [] := by
  obtain ⟨fd, F⟩ := A.says.def_ 19 (d := d__law_bent) rfl
  exact ⟨_, fd, F, A.g__law_bent, FunD.bindsN F fun _ _ _ _ _ _ us hl => match us, hl with | [_, _, _], _ => rfl⟩
theorem fu__law_orders (A : Al K mg) : ∃ f fd, FunD K "_law_orders" "_law_orders" (defArgs s__law_orders) (defBody s__law_orders) (defScope s__law_orders) [] [] f fd ∧ mg "_law_orders" = some (.ref f) ∧ Binds K fd ["count"] [] := by
  obtain ⟨fd, F⟩ := A.says.def_ 20 (d := d__law_orders) rfl
  exact ⟨_, fd, F, A.g__law_orders, FunD.bindsN F fun _ _ _ _ _ _ us hl => match us, hl with | [_], _ => rfl⟩
theorem fu_law (A : Al K mg) : ∃ f fd, FunD K "law" "law" (defArgs s_law) (defBody s_law) (defScope s_law) [] [] f fd ∧ mg "law" = some (.ref f) ∧ Binds K fd ["script"] [] := by
  obtain ⟨fd, F⟩ := A.says.def_ 21 (d := d_law) rfl
  exact ⟨_, fd, F, A.g_law, FunD.bindsN F fun _ _ _ _ _ _ us hl => match us, hl with | [_], _ => rfl⟩
end
end W38
namespace W38
open PySem PySem.Spec PyProof.Rows L2 DL
def isInt : D → Bool
  | .int _ => true
  | _ => false
def isWithin (x : D) (lo hi : Int) : Bool := match x with
  | .int i => decide (lo ≤ i) && decide (i ≤ hi)
  | _ => false
def isTup (x : D) (a b : Int) : Bool := match x with
  | .tup l => decide (a ≤ (l.length : Int)) && decide ((l.length : Int) ≤ b)
  | _ => false
def goalOk (at_ many : Int) (g : D) : Bool := isNon g || isWithin g (at_ + 1) (many - 1)
def isState (count at_ many : Int) (x : D) : Bool := match x with
  | .tup gs => decide ((gs.length : Int) = count) && gs.all (goalOk at_ many)
  | _ => false
def isScreenOf (count : Int) (x : D) : Bool := match x with
  | .tup rows => decide (1 ≤ rows.length) && decide (rows.length ≤ 3000) && (List.range rows.length).all fun i => isState count (i : Nat) (rows.length : Nat) (rows.getD i .non)
  | _ => false
def stepD (rows : List D) (st : Option Int) (l : Int) : Option Int := match st with
  | none => none
  | some s => match rows.getD s.toNat .non with
    | .tup gs => match gs.getD l.toNat .non with
      | .int j => some j
      | _ => none
    | _ => none
def passD (rows : List D) (order : List Int) : Bool := match order.foldl (stepD rows) (some 0) with
  | some s => decide (s = (rows.length : Int) - 1)
  | none => false
def permN (n : Int) (order : List Int) : Prop := order.Perm ((List.range n.toNat).map fun (i : Nat) => (i : Int))
def JH : List D → List Int → Addr → Prop := fun xs cells c => ∃ p b r n : Int, xs = [.ref c, .int p, .int b, .int r, .int n] ∧ 0 ≤ p ∧ cells.length ≤ 63
def od : Option Int → D
  | some i => .int i
  | none => .non
theorem permN_length {n : Int} {order : List Int} (h0 : 0 ≤ n) (h : permN n order) : (order.length : Int) = n := by
  have := h.length_eq
  simp at this
  omega
theorem permN_mem {n : Int} {order : List Int} (h : permN n order) {l : Int} (hl : l ∈ order) : 0 ≤ l ∧ l < n := by
  have := h.mem_iff.mp hl
  simp at this
  obtain ⟨a, h1, rfl⟩ := this
  omega
theorem permN_sorted {n : Int} {ns : List Int} (h : permN n ns) (hs : ns.Pairwise (· ≤ ·)) : ns.map D.int = rangeD 0 n.toNat := by
  have e : ns = (List.range n.toNat).map fun (i : Nat) => (i : Int) := by
    refine h.eq_of_pairwise (le := (· ≤ ·)) (fun a b _ _ h1 h2 => Int.le_antisymm h1 h2) hs ?_
    rw [List.pairwise_map]
    exact List.Pairwise.imp (fun h => by omega) List.pairwise_lt_range
  rw [e]
  simp [rangeD]
theorem take_succ_foldl {α β : Type} {f : β → α → β} {z : β} {l : List α} {i : Nat} {a : α} (h : l[i]? = some a) : (l.take (i + 1)).foldl f z = f ((l.take i).foldl f z) a := by
  rw [List.take_add_one, h]
  simp
theorem map_int_get {l : List Int} {i : Nat} {d : D} (h : (l.map D.int)[i]? = some d) : ∃ a, l[i]? = some a ∧ d = .int a := by
  rw [List.getElem?_map] at h
  cases e : l[i]? with
  | none => rw [e] at h; cases h
  | some a => rw [e] at h; cases h; exact ⟨a, rfl, rfl⟩
theorem getD_mem {gs : List D} {i : Nat} (h : i < gs.length) : gs.getD i .non ∈ gs := by
  rw [List.getD_eq_getElem?_getD, List.getElem?_eq_getElem h]
  exact List.getElem_mem h
theorem screen_len {c : Int} {rows : List D} (h : isScreenOf c (.tup rows) = true) : 1 ≤ rows.length := by
  simp only [isScreenOf, Bool.and_eq_true, decide_eq_true_eq] at h
  exact h.1.1
theorem screen_at {c s : Int} {rows : List D} (h : isScreenOf c (.tup rows) = true) (h0 : 0 ≤ s) (h1 : s < rows.length) :
    ∃ gs, rows.getD s.toNat .non = .tup gs ∧ (gs.length : Int) = c ∧ ∀ g ∈ gs, g = .non ∨ ∃ j, g = .int j ∧ s + 1 ≤ j ∧ j ≤ rows.length - 1 := by
  simp only [isScreenOf, Bool.and_eq_true, decide_eq_true_eq, List.all_eq_true, List.mem_range] at h
  have q := h.2 s.toNat (by omega)
  cases e : rows.getD s.toNat .non with
  | tup gs =>
    rw [e] at q
    simp only [isState, Bool.and_eq_true, decide_eq_true_eq, List.all_eq_true] at q
    refine ⟨gs, rfl, q.1, fun g hg => ?_⟩
    have z := q.2 g hg
    cases g with
    | non => exact .inl rfl
    | int j =>
      simp only [goalOk, isNon, isWithin, Bool.false_or, Bool.and_eq_true, decide_eq_true_eq] at z
      exact .inr ⟨j, rfl, by omega, by omega⟩
    | _ => simp [goalOk, isNon, isWithin] at z
  | _ => rw [e] at q; simp [isState] at q
theorem enumD_mem {ds : List D} {d : D} (h : d ∈ enumD ds) : ∃ i : Nat, i < ds.length ∧ d = .tup [.int (i : Nat), ds.getD i .non] := by
  obtain ⟨i, hi, rfl⟩ := List.mem_map.mp h
  exact ⟨i, List.mem_range.mp hi, rfl⟩
theorem enumD_all {ds : List D} {f : D → Bool} : (enumD ds).all f = (List.range ds.length).all fun i => f (.tup [.int (i : Nat), ds.getD i .non]) := by
  unfold enumD
  rw [List.all_map]
  rfl
theorem foldl_none {rows : List D} : ∀ l : List Int, l.foldl (stepD rows) none = none
  | [] => rfl
  | a :: l => foldl_none l
theorem intJH : IntRef JH := by
  rintro ds cells c ⟨p, b, r, n, rfl, _, _⟩ d hd
  simp only [List.mem_cons, List.not_mem_nil, or_false] at hd
  rcases hd with rfl | rfl | rfl | rfl | rfl <;> first | exact .inl ⟨_, rfl⟩ | exact .inr ⟨_, rfl⟩
def sp_is_integer : DSp := fun ds S Q _ => ∃ x, ds = [x] ∧ plD x = true ∧ Q (.bl (isInt x)) S
def sp_is_within : DSp := fun ds S Q _ => ∃ x lo hi, ds = [x, .int lo, .int hi] ∧ plD x = true ∧ Q (.bl (isWithin x lo hi)) S
def sp_is_tuple : DSp := fun ds S Q _ => ∃ x lo hi, ds = [x, .int lo, .int hi] ∧ plD x = true ∧ Q (.bl (isTup x lo hi)) S
def sp_check_count : DSp := fun ds S Q _ => ∃ c, ds = [.int c] ∧ (1 ≤ c ∧ c ≤ 16) ∧ Q .non S
def sp_is_state : DSp := fun ds S Q _ => ∃ count at_ many x, ds = [.int count, .int at_, .int many, x] ∧ (0 ≤ count ∧ count ≤ 16) ∧ pu x = true ∧ Q (.bl (isState count at_ many x)) S
def sp_is_screen_of : DSp := fun ds S Q _ => ∃ count x, ds = [.int count, x] ∧ (0 ≤ count ∧ count ≤ 16) ∧ pu x = true ∧ Q (.bl (isScreenOf count x)) S
def sp_is_screen : DSp := fun ds S Q _ => ∃ count x, ds = [.int count, x] ∧ (1 ≤ count ∧ count ≤ 16) ∧ pu x = true ∧ Q (.bl (isScreenOf count x)) S
def sp_passing : DSp := fun ds S Q _ => ∃ (count : Int) (rows : List D) (order : List Int), ds = [.tup rows, .tup (order.map D.int)] ∧ isScreenOf count (.tup rows) = true ∧ (∀ l ∈ order, 0 ≤ l ∧ l < count) ∧ Q (.bl (passD rows order)) S
def sp_is_order_of : DSp := fun ds S Q _ => ∃ (count : Int) (order : List Int), ds = [.int count, .tup (order.map D.int)] ∧ (0 ≤ count ∧ count ≤ 16) ∧ permN count order ∧ Q (.bl true) S
def sp_passes_screen : DSp := fun ds S Q _ => ∃ (count : Int) (rows : List D) (order : List Int), ds = [.int count, .tup rows, .tup (order.map D.int)] ∧ (1 ≤ count ∧ count ≤ 16) ∧ pus rows = true ∧ isScreenOf count (.tup rows) = true ∧ permN count order ∧ Q (.bl (passD rows order)) S
def sp__law_hand : DSp := handSpO JH
def sp__law_draw : DSp := drawSpO JH
def sp__law_some : DSp := fun ds S Q _ => ∃ (t : Addr) (xs : List D), ds = [.ref t, .lst xs] ∧ S t = some (.opq (opq2 JH)) ∧ (0 < xs.length ∧ xs.length < 1000) ∧ ∀ x ∈ xs, Q x S
def sp__law_is : DSp := fun ds S Q _ => ∃ a b, ds = [.bl a, .bl b] ∧ Q (.bl (a == b)) S
def sp__law_int : DSp := fun ds S Q _ => ∃ x lo hi, ds = [x, .int lo, .int hi] ∧ plD x = true ∧ Q (.bl (isWithin x lo hi)) S
def sp__law_shuffled : DSp := fun ds S Q _ => ∃ (t : Addr) (n : Int), ds = [.ref t, .int n] ∧ S t = some (.opq (opq2 JH)) ∧ (0 ≤ n ∧ n ≤ 16) ∧ ∀ order, permN n order → Q (.tup (order.map D.int)) S
def sp__law_screen : DSp := fun ds S Q _ => ∃ (t : Addr) (n : Int), ds = [.ref t, .int n] ∧ S t = some (.opq (opq2 JH)) ∧ (1 ≤ n ∧ n ≤ 16) ∧ ∀ rows, rows.length ≤ 12 → pus rows = true → isScreenOf n (.tup rows) = true → Q (.tup rows) S
def sp__law_is_screen : DSp := fun ds S Q _ => ∃ n x, ds = [.int n, x] ∧ (1 ≤ n ∧ n ≤ 16) ∧ pu x = true ∧ Q (.bl (isScreenOf n x)) S
def sp__law_passes : DSp := fun ds S Q _ => ∃ (count : Int) (rows : List D) (order : List Int), ds = [.tup rows, .tup (order.map D.int)] ∧ isScreenOf count (.tup rows) = true ∧ (∀ l ∈ order, 0 ≤ l ∧ l < count) ∧ Q (.bl (passD rows order)) S
def sp__law_bent : DSp := fun ds S Q _ => ∃ (t : Addr) (n : Int) (rows : List D), ds = [.ref t, .int n, .tup rows] ∧ S t = some (.opq (opq2 JH)) ∧ (1 ≤ n ∧ n ≤ 16) ∧ rows.length ≤ 12 ∧ pus rows = true ∧ isScreenOf n (.tup rows) = true ∧ ∀ x, pu x = true → Q x S
def sp__law_orders : DSp := fun ds S Q _ => ∃ (n : Int), ds = [.int n] ∧ (0 ≤ n ∧ n < 5) ∧ ∀ xs : List D, (∀ x ∈ xs, ∃ order, x = .tup (order.map D.int) ∧ permN n order) → Q (.lst xs) S
def sp_law : DSp := fun ds S Q _ => ∃ ns : List Int, ds = [.lst (ns.map D.int)] ∧ (∀ a m, S a = some m → isOpq m = false) ∧ Q (.bl true) S
end W38
namespace W38
open PySem PySem.Spec PyProof.Rows L2 DL
theorem sc_is_integer : FnScope ["thing"] ["thing"] (defScope s_is_integer) := ⟨rfl, rfl, rfl, by decide +kernel, rfl, by decide +kernel, by decide +kernel⟩
theorem ar_is_integer : ∀ ds S Q E, sp_is_integer ds S Q E → ds.length = 1 := by
  rintro ds S Q E h
  simp only [sp_is_integer] at h
  obtain ⟨_, h⟩ := h
  repeat (first | (obtain ⟨rfl, _⟩ := h; rfl) | (obtain ⟨_, h⟩ := h))
section
variable {P : Program} {w : World} {K : PySem.W.Frag} {mg : Str → Option Value} {base : Heap}
theorem O_is_integer (A : Al K mg) {f : Addr} {fd : FuncData} (Fu : FunD K "is_integer" "is_integer" (defArgs s_is_integer) (defBody s_is_integer) (defScope s_is_integer) [] [] f fd) : FnOk P w K mg base CX0 1 f fd ["thing"] (spD K sp_is_integer) := by
  refine fn_d Fu sc_is_integer ar_is_integer (fun cdv A0 outer s0 H0 E0' hr => ⟨_, _,
      (db_one (ds_ret (de_and (de_isiK K .int rfl A.b_isinstance (de_var 0) A.b_int) (de_one (de_not (de_isiK K .bool rfl A.b_isinstance (de_var 0) A.b_bool)))))),
      ?_⟩)
  all_goals (
    rintro ds S Q Ed ⟨x, rfl, pl, q⟩
    simp only [wSeq, wNext, wIfS, wAsg, wRet, wRetN, wDrop, wOp, wUn, wgSub, wBM, z_tyd_lst,  wCB, wCons, wNil, wVar, wVarF, wC, wgName, wTe, wAnd, wOr, DL.wNot, wAndV, wOrV, wNotV, wIf, wCh, wEq, wNe, wIsi, wIsi2, wCall, wNever, wTup, wLst, wSl, wNoPart, wPart, wYes, endD, startR, newL_f, newL_t, List.map, List.length, List.length_cons, List.length_nil, List.getElem?_cons_zero, List.getElem?_cons_succ, List.set_cons_zero, List.set_cons_succ, List.cons_append, List.nil_append, List.append_nil, List.replicate, Nat.reduceSub, Nat.reduceAdd, Option.some.injEq, ex_some_iff, ex_bl_iff, ex_int_iff, ex_tup_iff, exists_eq_left', true_and, and_true, rd_non, rd_bl, rd_int, rd_str, rd_tup, rd_lst, pl_int, pl_bl, pl_non, pl_tup, pl_lst, pl_str, isNon_int, isNon_bl, isNon_non, isNon_tup, isNon_str, isNon_ref, isNon_lst, okD_int, okD_bl, okD_non, eqD_int, eqD_bl, eqD_non, Bool.false_eq_true, if_true, if_false, ite_true, ite_false, Bool.not_true, Bool.not_false, D.int.injEq, D.tup.injEq, D.lst.injEq, D.ref.injEq, D.bl.injEq, MO.lst.injEq, List.cons.injEq, reduceCtorEq, false_and, and_false, exists_const, and_assoc, exists_and_left, exists_eq_left, wLc, wiSeq, wipeR, id, wiEnum, wiZip, wiRng1, wiRng2, wgTup, lenOk, wgCons, wgNil, wFor, wLstRg1, z_in_lst, z_in_tup, flat_int, flat_ints, inD_ints, wRev, wDic0, wExtend,  z_ix_0, z_ixt_0, z_ix_1, z_ixt_1, z_ix_2, z_ixt_2, z_ix_3, z_ixt_3, z_ix_4, z_ixt_4, z_ix_5, z_ixt_5, z_ix_6, z_ixt_6, z_ix_7, z_ixt_7, z_ix_8, z_ixt_8, z_add_int, z_add_tup, z_add_lst, z_add_str, z_mul_int, z_mul_tup, z_mul_lst, z_ib_int, z_ii_int, z_neg_int, z_len_lst, z_len_tup, z_len_str, z_abs_int, z_int_int, z_cii_int, z_tuple_lst, z_tuple_tup, z_list_lst, z_list_tup, z_cut_lst, z_cut_tup, z_rev_lst, z_rev_tup, z_isN_, z_notN_, z_isB_, z_notB_, z_w1_, z_w2_, z_in_lst, z_in_tup, z_isK_int_int, z_isK_int_bl, z_isK_int_str, z_isK_int_tup, z_isK_int_lst, z_isK_int_dic, z_isK_int_non, z_isK_bool_int, z_isK_bool_bl, z_isK_bool_str, z_isK_bool_tup, z_isK_bool_lst, z_isK_bool_dic, z_isK_bool_non, z_isK_str_int, z_isK_str_bl, z_isK_str_str, z_isK_str_tup, z_isK_str_lst, z_isK_str_dic, z_isK_str_non, z_isK_tuple_int, z_isK_tuple_bl, z_isK_tuple_str, z_isK_tuple_tup, z_isK_tuple_lst, z_isK_tuple_dic, z_isK_tuple_non, z_isK_list_int, z_isK_list_bl, z_isK_list_str, z_isK_list_tup, z_isK_list_lst, z_isK_list_dic, z_isK_list_non, z_isK_dict_int, z_isK_dict_bl, z_isK_dict_str, z_isK_dict_tup, z_isK_dict_lst, z_isK_dict_dic, z_isK_dict_non, z_items_lst, z_items_tup, rd_pl pl, pl]
    cases x <;> simp_all [isK, isInt] <;> exact outK.same q)
theorem D_is_integer (A : Al K mg) : Def P w K mg base CX0 1 "is_integer" ["thing"] sp_is_integer := by
  obtain ⟨f, fd, Fu, hm, hb⟩ := fu_is_integer A
  exact ⟨f, fd, O_is_integer A Fu, hm, Fu.kp, hb⟩
end
end W38
namespace W38
open PySem PySem.Spec PyProof.Rows L2 DL
theorem sc_is_tuple : FnScope ["thing", "least", "most"] ["thing", "least", "most"] (defScope s_is_tuple) := ⟨rfl, rfl, rfl, by decide +kernel, rfl, by decide +kernel, by decide +kernel⟩
theorem ar_is_tuple : ∀ ds S Q E, sp_is_tuple ds S Q E → ds.length = 3 := by
  rintro ds S Q E h
  simp only [sp_is_tuple] at h
  obtain ⟨_, h⟩ := h
  repeat (first | (obtain ⟨rfl, _⟩ := h; rfl) | (obtain ⟨_, h⟩ := h))
section
variable {P : Program} {w : World} {K : PySem.W.Frag} {mg : Str → Option Value} {base : Heap}
theorem O_is_tuple (A : Al K mg) {f : Addr} {fd : FuncData} (Fu : FunD K "is_tuple" "is_tuple" (defArgs s_is_tuple) (defBody s_is_tuple) (defScope s_is_tuple) [] [] f fd) : FnOk P w K mg base CX0 1 f fd ["thing", "least", "most"] (spD K sp_is_tuple) := by
  refine fn_d Fu sc_is_tuple ar_is_tuple (fun cdv A0 outer s0 H0 E0' hr => ⟨_, _,
      (db_one (ds_ret (de_and (de_isiK K .tuple rfl A.b_isinstance (de_var 0) A.b_tuple) (de_one (de_ch op_le op_le ro_IB ro_IB (de_var 1) (de_cb (call_lenK K) roc_len rfl A.b_len (by decide +kernel) (da_cons (de_var 0) da_nil)) (de_var 2)))))),
      ?_⟩)
  all_goals (
    rintro ds S Q Ed ⟨x, lo, hi, rfl, pl, q⟩
    simp only [wSeq, wNext, wIfS, wAsg, wRet, wRetN, wDrop, wOp, wUn, wgSub, wBM, z_tyd_lst,  wCB, wCons, wNil, wVar, wVarF, wC, wgName, wTe, wAnd, wOr, DL.wNot, wAndV, wOrV, wNotV, wIf, wCh, wEq, wNe, wIsi, wIsi2, wCall, wNever, wTup, wLst, wSl, wNoPart, wPart, wYes, endD, startR, newL_f, newL_t, List.map, List.length, List.length_cons, List.length_nil, List.getElem?_cons_zero, List.getElem?_cons_succ, List.set_cons_zero, List.set_cons_succ, List.cons_append, List.nil_append, List.append_nil, List.replicate, Nat.reduceSub, Nat.reduceAdd, Option.some.injEq, ex_some_iff, ex_bl_iff, ex_int_iff, ex_tup_iff, exists_eq_left', true_and, and_true, rd_non, rd_bl, rd_int, rd_str, rd_tup, rd_lst, pl_int, pl_bl, pl_non, pl_tup, pl_lst, pl_str, isNon_int, isNon_bl, isNon_non, isNon_tup, isNon_str, isNon_ref, isNon_lst, okD_int, okD_bl, okD_non, eqD_int, eqD_bl, eqD_non, Bool.false_eq_true, if_true, if_false, ite_true, ite_false, Bool.not_true, Bool.not_false, D.int.injEq, D.tup.injEq, D.lst.injEq, D.ref.injEq, D.bl.injEq, MO.lst.injEq, List.cons.injEq, reduceCtorEq, false_and, and_false, exists_const, and_assoc, exists_and_left, exists_eq_left, wLc, wiSeq, wipeR, id, wiEnum, wiZip, wiRng1, wiRng2, wgTup, lenOk, wgCons, wgNil, wFor, wLstRg1, z_in_lst, z_in_tup, flat_int, flat_ints, inD_ints, wRev, wDic0, wExtend,  z_ix_0, z_ixt_0, z_ix_1, z_ixt_1, z_ix_2, z_ixt_2, z_ix_3, z_ixt_3, z_ix_4, z_ixt_4, z_ix_5, z_ixt_5, z_ix_6, z_ixt_6, z_ix_7, z_ixt_7, z_ix_8, z_ixt_8, z_add_int, z_add_tup, z_add_lst, z_add_str, z_mul_int, z_mul_tup, z_mul_lst, z_ib_int, z_ii_int, z_neg_int, z_len_lst, z_len_tup, z_len_str, z_abs_int, z_int_int, z_cii_int, z_tuple_lst, z_tuple_tup, z_list_lst, z_list_tup, z_cut_lst, z_cut_tup, z_rev_lst, z_rev_tup, z_isN_, z_notN_, z_isB_, z_notB_, z_w1_, z_w2_, z_in_lst, z_in_tup, z_isK_int_int, z_isK_int_bl, z_isK_int_str, z_isK_int_tup, z_isK_int_lst, z_isK_int_dic, z_isK_int_non, z_isK_bool_int, z_isK_bool_bl, z_isK_bool_str, z_isK_bool_tup, z_isK_bool_lst, z_isK_bool_dic, z_isK_bool_non, z_isK_str_int, z_isK_str_bl, z_isK_str_str, z_isK_str_tup, z_isK_str_lst, z_isK_str_dic, z_isK_str_non, z_isK_tuple_int, z_isK_tuple_bl, z_isK_tuple_str, z_isK_tuple_tup, z_isK_tuple_lst, z_isK_tuple_dic, z_isK_tuple_non, z_isK_list_int, z_isK_list_bl, z_isK_list_str, z_isK_list_tup, z_isK_list_lst, z_isK_list_dic, z_isK_list_non, z_isK_dict_int, z_isK_dict_bl, z_isK_dict_str, z_isK_dict_tup, z_isK_dict_lst, z_isK_dict_dic, z_isK_dict_non, z_items_lst, z_items_tup, rd_pl pl, pl]
    cases x <;> first | exact outK.same q | skip
    rename_i l
    simp only [wSeq, wNext, wIfS, wAsg, wRet, wRetN, wDrop, wOp, wUn, wgSub, wBM, z_tyd_lst,  wCB, wCons, wNil, wVar, wVarF, wC, wgName, wTe, wAnd, wOr, DL.wNot, wAndV, wOrV, wNotV, wIf, wCh, wEq, wNe, wIsi, wIsi2, wCall, wNever, wTup, wLst, wSl, wNoPart, wPart, wYes, endD, startR, newL_f, newL_t, List.map, List.length, List.length_cons, List.length_nil, List.getElem?_cons_zero, List.getElem?_cons_succ, List.set_cons_zero, List.set_cons_succ, List.cons_append, List.nil_append, List.append_nil, List.replicate, Nat.reduceSub, Nat.reduceAdd, Option.some.injEq, ex_some_iff, ex_bl_iff, ex_int_iff, ex_tup_iff, exists_eq_left', true_and, and_true, rd_non, rd_bl, rd_int, rd_str, rd_tup, rd_lst, pl_int, pl_bl, pl_non, pl_tup, pl_lst, pl_str, isNon_int, isNon_bl, isNon_non, isNon_tup, isNon_str, isNon_ref, isNon_lst, okD_int, okD_bl, okD_non, eqD_int, eqD_bl, eqD_non, Bool.false_eq_true, if_true, if_false, ite_true, ite_false, Bool.not_true, Bool.not_false, D.int.injEq, D.tup.injEq, D.lst.injEq, D.ref.injEq, D.bl.injEq, MO.lst.injEq, List.cons.injEq, reduceCtorEq, false_and, and_false, exists_const, and_assoc, exists_and_left, exists_eq_left, wLc, wiSeq, wipeR, id, wiEnum, wiZip, wiRng1, wiRng2, wgTup, lenOk, wgCons, wgNil, wFor, wLstRg1, z_in_lst, z_in_tup, flat_int, flat_ints, inD_ints, wRev, wDic0, wExtend,  z_ix_0, z_ixt_0, z_ix_1, z_ixt_1, z_ix_2, z_ixt_2, z_ix_3, z_ixt_3, z_ix_4, z_ixt_4, z_ix_5, z_ixt_5, z_ix_6, z_ixt_6, z_ix_7, z_ixt_7, z_ix_8, z_ixt_8, z_add_int, z_add_tup, z_add_lst, z_add_str, z_mul_int, z_mul_tup, z_mul_lst, z_ib_int, z_ii_int, z_neg_int, z_len_lst, z_len_tup, z_len_str, z_abs_int, z_int_int, z_cii_int, z_tuple_lst, z_tuple_tup, z_list_lst, z_list_tup, z_cut_lst, z_cut_tup, z_rev_lst, z_rev_tup, z_isN_, z_notN_, z_isB_, z_notB_, z_w1_, z_w2_, z_in_lst, z_in_tup, z_isK_int_int, z_isK_int_bl, z_isK_int_str, z_isK_int_tup, z_isK_int_lst, z_isK_int_dic, z_isK_int_non, z_isK_bool_int, z_isK_bool_bl, z_isK_bool_str, z_isK_bool_tup, z_isK_bool_lst, z_isK_bool_dic, z_isK_bool_non, z_isK_str_int, z_isK_str_bl, z_isK_str_str, z_isK_str_tup, z_isK_str_lst, z_isK_str_dic, z_isK_str_non, z_isK_tuple_int, z_isK_tuple_bl, z_isK_tuple_str, z_isK_tuple_tup, z_isK_tuple_lst, z_isK_tuple_dic, z_isK_tuple_non, z_isK_list_int, z_isK_list_bl, z_isK_list_str, z_isK_list_tup, z_isK_list_lst, z_isK_list_dic, z_isK_list_non, z_isK_dict_int, z_isK_dict_bl, z_isK_dict_str, z_isK_dict_tup, z_isK_dict_lst, z_isK_dict_dic, z_isK_dict_non, z_items_lst, z_items_tup]
    refine ite_bl (fun h => ?_) (fun h => ?_) <;> simp only [isTup, h, Bool.true_and, Bool.false_and] at q <;> exact outK.same q)
theorem D_is_tuple (A : Al K mg) : Def P w K mg base CX0 1 "is_tuple" ["thing", "least", "most"] sp_is_tuple := by
  obtain ⟨f, fd, Fu, hm, hb⟩ := fu_is_tuple A
  exact ⟨f, fd, O_is_tuple A Fu, hm, Fu.kp, hb⟩
end
end W38
namespace W38
open PySem PySem.Spec PyProof.Rows L2 DL
theorem sc_passing : FnScope ["screen", "order", "at", "layer"] ["screen", "order"] (defScope s_passing) := ⟨rfl, rfl, rfl, by decide +kernel, rfl, by decide +kernel, by decide +kernel⟩
theorem ar_passing : ∀ ds S Q E, sp_passing ds S Q E → ds.length = 2 := by
  rintro ds S Q E h
  simp only [sp_passing] at h
  obtain ⟨_, h⟩ := h
  repeat (first | (obtain ⟨rfl, _⟩ := h; rfl) | (obtain ⟨_, h⟩ := h))
section
variable {P : Program} {w : World} {K : PySem.W.Frag} {mg : Str → Option Value} {base : Heap}
theorem O_passing (A : Al K mg) {f : Addr} {fd : FuncData} (Fu : FunD K "passing" "passing" (defArgs s_passing) (defBody s_passing) (defScope s_passing) [] [] f fd) : FnOk P w K mg base CX0 1 f fd ["screen", "order"] (spD K sp_passing) := by
  refine fn_d Fu sc_passing ar_passing (fun cdv A0 outer s0 H0 E0' hr => ⟨_, _,
      (db_cons (ds_set 2 sc_passing.nd de_int)
      (db_cons (ds_for (vs := [3]) PassesOwn.never rfl (di_seqK K (de_var 1)) (dg_name (vs := [3]) 3 (by decide) sc_passing.nd)
        (db_one (ds_set 2 sc_passing.nd (de_if (dt_cmp op_isN ro_isN (de_var 2) de_non (nomark _)) de_non (de_ixK K (de_ixK K (de_var 0) (de_var 2)) (de_var 3))))))
      (db_one (ds_ret (de_and (de_cmp op_notN ro_notN (de_var 2) de_non (nomark _)) (de_one (de_cmp (op_eqK K hr.units) ro_eq (de_var 2) (de_op op_sub ro_I0 (de_cb (call_lenK K) roc_len rfl A.b_len (by decide +kernel) (da_cons (de_var 0) da_nil)) de_int) (nomark _)))))))),
      ?_⟩)
  all_goals (
    rintro ds S Q Ed ⟨count, rows, order, rfl, hs, ho, q⟩
    simp only [wSeq, wNext, wIfS, wAsg, wRet, wRetN, wDrop, wOp, wUn, wgSub, wBM, z_tyd_lst,  wCB, wCons, wNil, wVar, wVarF, wC, wgName, wTe, wAnd, wOr, DL.wNot, wAndV, wOrV, wNotV, wIf, wCh, wEq, wNe, wIsi, wIsi2, wCall, wNever, wTup, wLst, wSl, wNoPart, wPart, wYes, endD, startR, newL_f, newL_t, List.map, List.length, List.length_cons, List.length_nil, List.getElem?_cons_zero, List.getElem?_cons_succ, List.set_cons_zero, List.set_cons_succ, List.cons_append, List.nil_append, List.append_nil, List.replicate, Nat.reduceSub, Nat.reduceAdd, Option.some.injEq, ex_some_iff, ex_bl_iff, ex_int_iff, ex_tup_iff, exists_eq_left', true_and, and_true, rd_non, rd_bl, rd_int, rd_str, rd_tup, rd_lst, pl_int, pl_bl, pl_non, pl_tup, pl_lst, pl_str, isNon_int, isNon_bl, isNon_non, isNon_tup, isNon_str, isNon_ref, isNon_lst, okD_int, okD_bl, okD_non, eqD_int, eqD_bl, eqD_non, Bool.false_eq_true, if_true, if_false, ite_true, ite_false, Bool.not_true, Bool.not_false, D.int.injEq, D.tup.injEq, D.lst.injEq, D.ref.injEq, D.bl.injEq, MO.lst.injEq, List.cons.injEq, reduceCtorEq, false_and, and_false, exists_const, and_assoc, exists_and_left, exists_eq_left, wLc, wiSeq, wipeR, id, wiEnum, wiZip, wiRng1, wiRng2, wgTup, lenOk, wgCons, wgNil, wFor, wLstRg1, z_in_lst, z_in_tup, flat_int, flat_ints, inD_ints, wRev, wDic0, wExtend,  z_ix_0, z_ixt_0, z_ix_1, z_ixt_1, z_ix_2, z_ixt_2, z_ix_3, z_ixt_3, z_ix_4, z_ixt_4, z_ix_5, z_ixt_5, z_ix_6, z_ixt_6, z_ix_7, z_ixt_7, z_ix_8, z_ixt_8, z_add_int, z_add_tup, z_add_lst, z_add_str, z_mul_int, z_mul_tup, z_mul_lst, z_ib_int, z_ii_int, z_neg_int, z_len_lst, z_len_tup, z_len_str, z_abs_int, z_int_int, z_cii_int, z_tuple_lst, z_tuple_tup, z_list_lst, z_list_tup, z_cut_lst, z_cut_tup, z_rev_lst, z_rev_tup, z_isN_, z_notN_, z_isB_, z_notB_, z_w1_, z_w2_, z_in_lst, z_in_tup, z_isK_int_int, z_isK_int_bl, z_isK_int_str, z_isK_int_tup, z_isK_int_lst, z_isK_int_dic, z_isK_int_non, z_isK_bool_int, z_isK_bool_bl, z_isK_bool_str, z_isK_bool_tup, z_isK_bool_lst, z_isK_bool_dic, z_isK_bool_non, z_isK_str_int, z_isK_str_bl, z_isK_str_str, z_isK_str_tup, z_isK_str_lst, z_isK_str_dic, z_isK_str_non, z_isK_tuple_int, z_isK_tuple_bl, z_isK_tuple_str, z_isK_tuple_tup, z_isK_tuple_lst, z_isK_tuple_dic, z_isK_tuple_non, z_isK_list_int, z_isK_list_bl, z_isK_list_str, z_isK_list_tup, z_isK_list_lst, z_isK_list_dic, z_isK_list_non, z_isK_dict_int, z_isK_dict_bl, z_isK_dict_str, z_isK_dict_tup, z_isK_dict_lst, z_isK_dict_dic, z_isK_dict_non, z_items_lst, z_items_tup]
    refine forW_n (fun i ρ S' => S' = S ∧ ∃ z, ρ = [some (D.tup rows), some (D.tup (List.map D.int order)), some (od ((order.take i).foldl (stepD rows) (some 0))), z] ∧ ∀ s, (order.take i).foldl (stepD rows) (some 0) = some s → 0 ≤ s ∧ s < rows.length) (fun _ _ _ _ => trivial) (fun i d ρ S' hd h N hN => ?hs) (fun ρ S' h => ?hd) ⟨rfl, none, rfl, fun s e => ?h0⟩
    case h0 =>
      cases e
      exact ⟨Int.le_refl _, by have := screen_len hs; omega⟩
    case hd =>
      obtain ⟨rfl, z, rfl, hb⟩ := h
      rw [List.length_map, List.take_length] at *
      have e : passD rows order = (match order.foldl (stepD rows) (some 0) with | some s => decide (s = (rows.length : Int) - 1) | none => false) := rfl
      cases hst : order.foldl (stepD rows) (some 0) with
      | none =>
        rw [hst] at e
        rw [e] at q
        simp only [wSeq, wNext, wIfS, wAsg, wRet, wRetN, wDrop, wOp, wUn, wgSub, wBM, z_tyd_lst,  wCB, wCons, wNil, wVar, wVarF, wC, wgName, wTe, wAnd, wOr, DL.wNot, wAndV, wOrV, wNotV, wIf, wCh, wEq, wNe, wIsi, wIsi2, wCall, wNever, wTup, wLst, wSl, wNoPart, wPart, wYes, endD, startR, newL_f, newL_t, List.map, List.length, List.length_cons, List.length_nil, List.getElem?_cons_zero, List.getElem?_cons_succ, List.set_cons_zero, List.set_cons_succ, List.cons_append, List.nil_append, List.append_nil, List.replicate, Nat.reduceSub, Nat.reduceAdd, Option.some.injEq, ex_some_iff, ex_bl_iff, ex_int_iff, ex_tup_iff, exists_eq_left', true_and, and_true, rd_non, rd_bl, rd_int, rd_str, rd_tup, rd_lst, pl_int, pl_bl, pl_non, pl_tup, pl_lst, pl_str, isNon_int, isNon_bl, isNon_non, isNon_tup, isNon_str, isNon_ref, isNon_lst, okD_int, okD_bl, okD_non, eqD_int, eqD_bl, eqD_non, Bool.false_eq_true, if_true, if_false, ite_true, ite_false, Bool.not_true, Bool.not_false, D.int.injEq, D.tup.injEq, D.lst.injEq, D.ref.injEq, D.bl.injEq, MO.lst.injEq, List.cons.injEq, reduceCtorEq, false_and, and_false, exists_const, and_assoc, exists_and_left, exists_eq_left, wLc, wiSeq, wipeR, id, wiEnum, wiZip, wiRng1, wiRng2, wgTup, lenOk, wgCons, wgNil, wFor, wLstRg1, z_in_lst, z_in_tup, flat_int, flat_ints, inD_ints, wRev, wDic0, wExtend,  z_ix_0, z_ixt_0, z_ix_1, z_ixt_1, z_ix_2, z_ixt_2, z_ix_3, z_ixt_3, z_ix_4, z_ixt_4, z_ix_5, z_ixt_5, z_ix_6, z_ixt_6, z_ix_7, z_ixt_7, z_ix_8, z_ixt_8, z_add_int, z_add_tup, z_add_lst, z_add_str, z_mul_int, z_mul_tup, z_mul_lst, z_ib_int, z_ii_int, z_neg_int, z_len_lst, z_len_tup, z_len_str, z_abs_int, z_int_int, z_cii_int, z_tuple_lst, z_tuple_tup, z_list_lst, z_list_tup, z_cut_lst, z_cut_tup, z_rev_lst, z_rev_tup, z_isN_, z_notN_, z_isB_, z_notB_, z_w1_, z_w2_, z_in_lst, z_in_tup, z_isK_int_int, z_isK_int_bl, z_isK_int_str, z_isK_int_tup, z_isK_int_lst, z_isK_int_dic, z_isK_int_non, z_isK_bool_int, z_isK_bool_bl, z_isK_bool_str, z_isK_bool_tup, z_isK_bool_lst, z_isK_bool_dic, z_isK_bool_non, z_isK_str_int, z_isK_str_bl, z_isK_str_str, z_isK_str_tup, z_isK_str_lst, z_isK_str_dic, z_isK_str_non, z_isK_tuple_int, z_isK_tuple_bl, z_isK_tuple_str, z_isK_tuple_tup, z_isK_tuple_lst, z_isK_tuple_dic, z_isK_tuple_non, z_isK_list_int, z_isK_list_bl, z_isK_list_str, z_isK_list_tup, z_isK_list_lst, z_isK_list_dic, z_isK_list_non, z_isK_dict_int, z_isK_dict_bl, z_isK_dict_str, z_isK_dict_tup, z_isK_dict_lst, z_isK_dict_dic, z_isK_dict_non, z_items_lst, z_items_tup, od]
        exact outK.same q
      | some s =>
        rw [hst] at e
        rw [e] at q
        simp only [wSeq, wNext, wIfS, wAsg, wRet, wRetN, wDrop, wOp, wUn, wgSub, wBM, z_tyd_lst,  wCB, wCons, wNil, wVar, wVarF, wC, wgName, wTe, wAnd, wOr, DL.wNot, wAndV, wOrV, wNotV, wIf, wCh, wEq, wNe, wIsi, wIsi2, wCall, wNever, wTup, wLst, wSl, wNoPart, wPart, wYes, endD, startR, newL_f, newL_t, List.map, List.length, List.length_cons, List.length_nil, List.getElem?_cons_zero, List.getElem?_cons_succ, List.set_cons_zero, List.set_cons_succ, List.cons_append, List.nil_append, List.append_nil, List.replicate, Nat.reduceSub, Nat.reduceAdd, Option.some.injEq, ex_some_iff, ex_bl_iff, ex_int_iff, ex_tup_iff, exists_eq_left', true_and, and_true, rd_non, rd_bl, rd_int, rd_str, rd_tup, rd_lst, pl_int, pl_bl, pl_non, pl_tup, pl_lst, pl_str, isNon_int, isNon_bl, isNon_non, isNon_tup, isNon_str, isNon_ref, isNon_lst, okD_int, okD_bl, okD_non, eqD_int, eqD_bl, eqD_non, Bool.false_eq_true, if_true, if_false, ite_true, ite_false, Bool.not_true, Bool.not_false, D.int.injEq, D.tup.injEq, D.lst.injEq, D.ref.injEq, D.bl.injEq, MO.lst.injEq, List.cons.injEq, reduceCtorEq, false_and, and_false, exists_const, and_assoc, exists_and_left, exists_eq_left, wLc, wiSeq, wipeR, id, wiEnum, wiZip, wiRng1, wiRng2, wgTup, lenOk, wgCons, wgNil, wFor, wLstRg1, z_in_lst, z_in_tup, flat_int, flat_ints, inD_ints, wRev, wDic0, wExtend,  z_ix_0, z_ixt_0, z_ix_1, z_ixt_1, z_ix_2, z_ixt_2, z_ix_3, z_ixt_3, z_ix_4, z_ixt_4, z_ix_5, z_ixt_5, z_ix_6, z_ixt_6, z_ix_7, z_ixt_7, z_ix_8, z_ixt_8, z_add_int, z_add_tup, z_add_lst, z_add_str, z_mul_int, z_mul_tup, z_mul_lst, z_ib_int, z_ii_int, z_neg_int, z_len_lst, z_len_tup, z_len_str, z_abs_int, z_int_int, z_cii_int, z_tuple_lst, z_tuple_tup, z_list_lst, z_list_tup, z_cut_lst, z_cut_tup, z_rev_lst, z_rev_tup, z_isN_, z_notN_, z_isB_, z_notB_, z_w1_, z_w2_, z_in_lst, z_in_tup, z_isK_int_int, z_isK_int_bl, z_isK_int_str, z_isK_int_tup, z_isK_int_lst, z_isK_int_dic, z_isK_int_non, z_isK_bool_int, z_isK_bool_bl, z_isK_bool_str, z_isK_bool_tup, z_isK_bool_lst, z_isK_bool_dic, z_isK_bool_non, z_isK_str_int, z_isK_str_bl, z_isK_str_str, z_isK_str_tup, z_isK_str_lst, z_isK_str_dic, z_isK_str_non, z_isK_tuple_int, z_isK_tuple_bl, z_isK_tuple_str, z_isK_tuple_tup, z_isK_tuple_lst, z_isK_tuple_dic, z_isK_tuple_non, z_isK_list_int, z_isK_list_bl, z_isK_list_str, z_isK_list_tup, z_isK_list_lst, z_isK_list_dic, z_isK_list_non, z_isK_dict_int, z_isK_dict_bl, z_isK_dict_str, z_isK_dict_tup, z_isK_dict_lst, z_isK_dict_dic, z_isK_dict_non, z_items_lst, z_items_tup, od]
        exact outK.same q
    case hs =>
      obtain ⟨rfl, z, rfl, hb⟩ := h
      obtain ⟨l, hl, rfl⟩ := map_int_get hd
      have hln : 0 ≤ l ∧ l < count := ho l (List.mem_of_getElem? hl)
      rw [take_succ_foldl hl] at hN
      generalize (order.take i).foldl (stepD rows) (some 0) = st at hN hb ⊢
      cases st with
      | none =>
        simp only [wSeq, wNext, wIfS, wAsg, wRet, wRetN, wDrop, wOp, wUn, wgSub, wBM, z_tyd_lst,  wCB, wCons, wNil, wVar, wVarF, wC, wgName, wTe, wAnd, wOr, DL.wNot, wAndV, wOrV, wNotV, wIf, wCh, wEq, wNe, wIsi, wIsi2, wCall, wNever, wTup, wLst, wSl, wNoPart, wPart, wYes, endD, startR, newL_f, newL_t, List.map, List.length, List.length_cons, List.length_nil, List.getElem?_cons_zero, List.getElem?_cons_succ, List.set_cons_zero, List.set_cons_succ, List.cons_append, List.nil_append, List.append_nil, List.replicate, Nat.reduceSub, Nat.reduceAdd, Option.some.injEq, ex_some_iff, ex_bl_iff, ex_int_iff, ex_tup_iff, exists_eq_left', true_and, and_true, rd_non, rd_bl, rd_int, rd_str, rd_tup, rd_lst, pl_int, pl_bl, pl_non, pl_tup, pl_lst, pl_str, isNon_int, isNon_bl, isNon_non, isNon_tup, isNon_str, isNon_ref, isNon_lst, okD_int, okD_bl, okD_non, eqD_int, eqD_bl, eqD_non, Bool.false_eq_true, if_true, if_false, ite_true, ite_false, Bool.not_true, Bool.not_false, D.int.injEq, D.tup.injEq, D.lst.injEq, D.ref.injEq, D.bl.injEq, MO.lst.injEq, List.cons.injEq, reduceCtorEq, false_and, and_false, exists_const, and_assoc, exists_and_left, exists_eq_left, wLc, wiSeq, wipeR, id, wiEnum, wiZip, wiRng1, wiRng2, wgTup, lenOk, wgCons, wgNil, wFor, wLstRg1, z_in_lst, z_in_tup, flat_int, flat_ints, inD_ints, wRev, wDic0, wExtend,  z_ix_0, z_ixt_0, z_ix_1, z_ixt_1, z_ix_2, z_ixt_2, z_ix_3, z_ixt_3, z_ix_4, z_ixt_4, z_ix_5, z_ixt_5, z_ix_6, z_ixt_6, z_ix_7, z_ixt_7, z_ix_8, z_ixt_8, z_add_int, z_add_tup, z_add_lst, z_add_str, z_mul_int, z_mul_tup, z_mul_lst, z_ib_int, z_ii_int, z_neg_int, z_len_lst, z_len_tup, z_len_str, z_abs_int, z_int_int, z_cii_int, z_tuple_lst, z_tuple_tup, z_list_lst, z_list_tup, z_cut_lst, z_cut_tup, z_rev_lst, z_rev_tup, z_isN_, z_notN_, z_isB_, z_notB_, z_w1_, z_w2_, z_in_lst, z_in_tup, z_isK_int_int, z_isK_int_bl, z_isK_int_str, z_isK_int_tup, z_isK_int_lst, z_isK_int_dic, z_isK_int_non, z_isK_bool_int, z_isK_bool_bl, z_isK_bool_str, z_isK_bool_tup, z_isK_bool_lst, z_isK_bool_dic, z_isK_bool_non, z_isK_str_int, z_isK_str_bl, z_isK_str_str, z_isK_str_tup, z_isK_str_lst, z_isK_str_dic, z_isK_str_non, z_isK_tuple_int, z_isK_tuple_bl, z_isK_tuple_str, z_isK_tuple_tup, z_isK_tuple_lst, z_isK_tuple_dic, z_isK_tuple_non, z_isK_list_int, z_isK_list_bl, z_isK_list_str, z_isK_list_tup, z_isK_list_lst, z_isK_list_dic, z_isK_list_non, z_isK_dict_int, z_isK_dict_bl, z_isK_dict_str, z_isK_dict_tup, z_isK_dict_lst, z_isK_dict_dic, z_isK_dict_non, z_items_lst, z_items_tup, od]
        exact hN _ _ ⟨rfl, _, rfl, fun s e => nomatch e⟩
      | some s =>
        have hsb := hb s rfl
        obtain ⟨gs, e1, e2, e3⟩ := screen_at hs hsb.1 hsb.2
        have hg : gs.getD l.toNat .non ∈ gs := getD_mem (by omega)
        have es : stepD rows (some s) l = (match gs.getD l.toNat .non with | .int j => some j | _ => none) := by
          simp only [stepD, e1] <;> rfl
        simp only [wSeq, wNext, wIfS, wAsg, wRet, wRetN, wDrop, wOp, wUn, wgSub, wBM, z_tyd_lst,  wCB, wCons, wNil, wVar, wVarF, wC, wgName, wTe, wAnd, wOr, DL.wNot, wAndV, wOrV, wNotV, wIf, wCh, wEq, wNe, wIsi, wIsi2, wCall, wNever, wTup, wLst, wSl, wNoPart, wPart, wYes, endD, startR, newL_f, newL_t, List.map, List.length, List.length_cons, List.length_nil, List.getElem?_cons_zero, List.getElem?_cons_succ, List.set_cons_zero, List.set_cons_succ, List.cons_append, List.nil_append, List.append_nil, List.replicate, Nat.reduceSub, Nat.reduceAdd, Option.some.injEq, ex_some_iff, ex_bl_iff, ex_int_iff, ex_tup_iff, exists_eq_left', true_and, and_true, rd_non, rd_bl, rd_int, rd_str, rd_tup, rd_lst, pl_int, pl_bl, pl_non, pl_tup, pl_lst, pl_str, isNon_int, isNon_bl, isNon_non, isNon_tup, isNon_str, isNon_ref, isNon_lst, okD_int, okD_bl, okD_non, eqD_int, eqD_bl, eqD_non, Bool.false_eq_true, if_true, if_false, ite_true, ite_false, Bool.not_true, Bool.not_false, D.int.injEq, D.tup.injEq, D.lst.injEq, D.ref.injEq, D.bl.injEq, MO.lst.injEq, List.cons.injEq, reduceCtorEq, false_and, and_false, exists_const, and_assoc, exists_and_left, exists_eq_left, wLc, wiSeq, wipeR, id, wiEnum, wiZip, wiRng1, wiRng2, wgTup, lenOk, wgCons, wgNil, wFor, wLstRg1, z_in_lst, z_in_tup, flat_int, flat_ints, inD_ints, wRev, wDic0, wExtend,  z_ix_0, z_ixt_0, z_ix_1, z_ixt_1, z_ix_2, z_ixt_2, z_ix_3, z_ixt_3, z_ix_4, z_ixt_4, z_ix_5, z_ixt_5, z_ix_6, z_ixt_6, z_ix_7, z_ixt_7, z_ix_8, z_ixt_8, z_add_int, z_add_tup, z_add_lst, z_add_str, z_mul_int, z_mul_tup, z_mul_lst, z_ib_int, z_ii_int, z_neg_int, z_len_lst, z_len_tup, z_len_str, z_abs_int, z_int_int, z_cii_int, z_tuple_lst, z_tuple_tup, z_list_lst, z_list_tup, z_cut_lst, z_cut_tup, z_rev_lst, z_rev_tup, z_isN_, z_notN_, z_isB_, z_notB_, z_w1_, z_w2_, z_in_lst, z_in_tup, z_isK_int_int, z_isK_int_bl, z_isK_int_str, z_isK_int_tup, z_isK_int_lst, z_isK_int_dic, z_isK_int_non, z_isK_bool_int, z_isK_bool_bl, z_isK_bool_str, z_isK_bool_tup, z_isK_bool_lst, z_isK_bool_dic, z_isK_bool_non, z_isK_str_int, z_isK_str_bl, z_isK_str_str, z_isK_str_tup, z_isK_str_lst, z_isK_str_dic, z_isK_str_non, z_isK_tuple_int, z_isK_tuple_bl, z_isK_tuple_str, z_isK_tuple_tup, z_isK_tuple_lst, z_isK_tuple_dic, z_isK_tuple_non, z_isK_list_int, z_isK_list_bl, z_isK_list_str, z_isK_list_tup, z_isK_list_lst, z_isK_list_dic, z_isK_list_non, z_isK_dict_int, z_isK_dict_bl, z_isK_dict_str, z_isK_dict_tup, z_isK_dict_lst, z_isK_dict_dic, z_isK_dict_non, z_items_lst, z_items_tup, od, z_ixt_lt hsb.1 hsb.2, e1, z_ixt_lt hln.1 (show l < gs.length by omega)]
        rcases e3 _ hg with h | ⟨j, h, h1, h2⟩
        · rw [h] at es ⊢
          rw [es] at hN
          exact hN _ _ ⟨rfl, _, rfl, fun s e => nomatch e⟩
        · rw [h] at es ⊢
          rw [es] at hN
          refine hN _ _ ⟨rfl, _, rfl, fun s e => ?_⟩
          cases e
          omega)
theorem D_passing (A : Al K mg) : Def P w K mg base CX0 1 "passing" ["screen", "order"] sp_passing := by
  obtain ⟨f, fd, Fu, hm, hb⟩ := fu_passing A
  exact ⟨f, fd, O_passing A Fu, hm, Fu.kp, hb⟩
end
end W38
namespace W38
open PySem PySem.Spec PyProof.Rows L2 DL
theorem sc__law_hand : FnScope ["script", "cells", "cell"] ["script"] (defScope s__law_hand) := ⟨rfl, rfl, rfl, by decide +kernel, rfl, by decide +kernel, by decide +kernel⟩
theorem ar__law_hand : ∀ ds S Q E, sp__law_hand ds S Q E → ds.length = 1 := by
  rintro ds S Q E h
  simp only [sp__law_hand] at h
  obtain ⟨_, h⟩ := h
  repeat (first | (obtain ⟨rfl, _⟩ := h; rfl) | (obtain ⟨_, h⟩ := h))
section
variable {P : Program} {w : World} {K : PySem.W.Frag} {mg : Str → Option Value} {base : Heap}
theorem O__law_hand (A : Al K mg) {f : Addr} {fd : FuncData} (Fu : FunD K "_law_hand" "_law_hand" (defArgs s__law_hand) (defBody s__law_hand) (defScope s__law_hand) [] [] f fd) : FnOk P w K mg base CX0 1 f fd ["script"] (spD K sp__law_hand) := by
  refine fn_d Fu sc__law_hand ar__law_hand (fun cdv A0 outer s0 H0 E0' hr => ⟨_, _,
      (db_cons (ds_setLc true 1 [("cell", 2)] rfl sc__law_hand.nd (di_seqK K (de_slK K false (de_var 0) do_none (do_some de_int))) (blkOk_by (by kernel_rfl)) (fun _ _ _ _ _ => (dg_name (vs := [2]) 2 (by decide) sc__law_hand.nd)) (fun _ _ _ _ _ => dts_nil) (fun _ _ _ _ _ => (de_cb call_abs roc_abs rfl A.b_abs (by decide +kernel) (da_cons (de_ct call_int1 roc_int rfl A.b_int (by decide +kernel) (da_cons (de_var 2) da_nil)) da_nil))))
      (db_one (ds_ret (de_lst true (da_cons (de_var 1) (da_cons de_int (da_cons de_int (da_cons (de_op (op_addK K) (ro_add false) de_int (de_cb (call_lenK K) roc_len rfl A.b_len (by decide +kernel) (da_cons (de_var 1) da_nil))) (da_cons de_int da_nil))))))))),
      ?_⟩)
  all_goals (
    rintro ds S Q Ed ⟨ns, rfl, q⟩
    simp only [wSeq, wNext, wIfS, wAsg, wRet, wRetN, wDrop, wOp, wUn, wgSub, wBM, z_tyd_lst,  wCB, wCons, wNil, wVar, wVarF, wC, wgName, wTe, wAnd, wOr, DL.wNot, wAndV, wOrV, wNotV, wIf, wCh, wEq, wNe, wIsi, wIsi2, wCall, wNever, wTup, wLst, wSl, wNoPart, wPart, wYes, endD, startR, newL_f, newL_t, List.map, List.length, List.length_cons, List.length_nil, List.getElem?_cons_zero, List.getElem?_cons_succ, List.set_cons_zero, List.set_cons_succ, List.cons_append, List.nil_append, List.append_nil, List.replicate, Nat.reduceSub, Nat.reduceAdd, Option.some.injEq, ex_some_iff, ex_bl_iff, ex_int_iff, ex_tup_iff, exists_eq_left', true_and, and_true, rd_non, rd_bl, rd_int, rd_str, rd_tup, rd_lst, pl_int, pl_bl, pl_non, pl_tup, pl_lst, pl_str, isNon_int, isNon_bl, isNon_non, isNon_tup, isNon_str, isNon_ref, isNon_lst, okD_int, okD_bl, okD_non, eqD_int, eqD_bl, eqD_non, Bool.false_eq_true, if_true, if_false, ite_true, ite_false, Bool.not_true, Bool.not_false, D.int.injEq, D.tup.injEq, D.lst.injEq, D.ref.injEq, D.bl.injEq, MO.lst.injEq, List.cons.injEq, reduceCtorEq, false_and, and_false, exists_const, and_assoc, exists_and_left, exists_eq_left, wLc, wiSeq, wipeR, id, wiEnum, wiZip, wiRng1, wiRng2, wgTup, lenOk, wgCons, wgNil, wFor, wLstRg1, z_in_lst, z_in_tup, flat_int, flat_ints, inD_ints, wRev, wDic0, wExtend,  z_ix_0, z_ixt_0, z_ix_1, z_ixt_1, z_ix_2, z_ixt_2, z_ix_3, z_ixt_3, z_ix_4, z_ixt_4, z_ix_5, z_ixt_5, z_ix_6, z_ixt_6, z_ix_7, z_ixt_7, z_ix_8, z_ixt_8, z_add_int, z_add_tup, z_add_lst, z_add_str, z_mul_int, z_mul_tup, z_mul_lst, z_ib_int, z_ii_int, z_neg_int, z_len_lst, z_len_tup, z_len_str, z_abs_int, z_int_int, z_cii_int, z_tuple_lst, z_tuple_tup, z_list_lst, z_list_tup, z_cut_lst, z_cut_tup, z_rev_lst, z_rev_tup, z_isN_, z_notN_, z_isB_, z_notB_, z_w1_, z_w2_, z_in_lst, z_in_tup, z_isK_int_int, z_isK_int_bl, z_isK_int_str, z_isK_int_tup, z_isK_int_lst, z_isK_int_dic, z_isK_int_non, z_isK_bool_int, z_isK_bool_bl, z_isK_bool_str, z_isK_bool_tup, z_isK_bool_lst, z_isK_bool_dic, z_isK_bool_non, z_isK_str_int, z_isK_str_bl, z_isK_str_str, z_isK_str_tup, z_isK_str_lst, z_isK_str_dic, z_isK_str_non, z_isK_tuple_int, z_isK_tuple_bl, z_isK_tuple_str, z_isK_tuple_tup, z_isK_tuple_lst, z_isK_tuple_dic, z_isK_tuple_non, z_isK_list_int, z_isK_list_bl, z_isK_list_str, z_isK_list_tup, z_isK_list_lst, z_isK_list_dic, z_isK_list_non, z_isK_dict_int, z_isK_dict_bl, z_isK_dict_str, z_isK_dict_tup, z_isK_dict_lst, z_isK_dict_dic, z_isK_dict_non, z_items_lst, z_items_tup]
    rw [cutD_to (by decide)]
    have e1 : ∀ {c : Addr} {l : List D}, rd (S.set c (.lst l)) (.ref c) = .lst l := z_rd_set
    refine compL_mapT (fun d => match d with | .int i => .int (if i < 0 then -i else i) | _ => .non) noG_any (le_sz (by rw [List.length_take]; omega)) (fun d hd S' sub N hN => ?_) (fun c hc => ?_)
    · obtain ⟨i, _, rfl⟩ := List.mem_map.mp (List.mem_of_mem_take hd)
      simp only [wSeq, wNext, wIfS, wAsg, wRet, wRetN, wDrop, wOp, wUn, wgSub, wBM, z_tyd_lst,  wCB, wCons, wNil, wVar, wVarF, wC, wgName, wTe, wAnd, wOr, DL.wNot, wAndV, wOrV, wNotV, wIf, wCh, wEq, wNe, wIsi, wIsi2, wCall, wNever, wTup, wLst, wSl, wNoPart, wPart, wYes, endD, startR, newL_f, newL_t, List.map, List.length, List.length_cons, List.length_nil, List.getElem?_cons_zero, List.getElem?_cons_succ, List.set_cons_zero, List.set_cons_succ, List.cons_append, List.nil_append, List.append_nil, List.replicate, Nat.reduceSub, Nat.reduceAdd, Option.some.injEq, ex_some_iff, ex_bl_iff, ex_int_iff, ex_tup_iff, exists_eq_left', true_and, and_true, rd_non, rd_bl, rd_int, rd_str, rd_tup, rd_lst, pl_int, pl_bl, pl_non, pl_tup, pl_lst, pl_str, isNon_int, isNon_bl, isNon_non, isNon_tup, isNon_str, isNon_ref, isNon_lst, okD_int, okD_bl, okD_non, eqD_int, eqD_bl, eqD_non, Bool.false_eq_true, if_true, if_false, ite_true, ite_false, Bool.not_true, Bool.not_false, D.int.injEq, D.tup.injEq, D.lst.injEq, D.ref.injEq, D.bl.injEq, MO.lst.injEq, List.cons.injEq, reduceCtorEq, false_and, and_false, exists_const, and_assoc, exists_and_left, exists_eq_left, wLc, wiSeq, wipeR, id, wiEnum, wiZip, wiRng1, wiRng2, wgTup, lenOk, wgCons, wgNil, wFor, wLstRg1, z_in_lst, z_in_tup, flat_int, flat_ints, inD_ints, wRev, wDic0, wExtend,  z_ix_0, z_ixt_0, z_ix_1, z_ixt_1, z_ix_2, z_ixt_2, z_ix_3, z_ixt_3, z_ix_4, z_ixt_4, z_ix_5, z_ixt_5, z_ix_6, z_ixt_6, z_ix_7, z_ixt_7, z_ix_8, z_ixt_8, z_add_int, z_add_tup, z_add_lst, z_add_str, z_mul_int, z_mul_tup, z_mul_lst, z_ib_int, z_ii_int, z_neg_int, z_len_lst, z_len_tup, z_len_str, z_abs_int, z_int_int, z_cii_int, z_tuple_lst, z_tuple_tup, z_list_lst, z_list_tup, z_cut_lst, z_cut_tup, z_rev_lst, z_rev_tup, z_isN_, z_notN_, z_isB_, z_notB_, z_w1_, z_w2_, z_in_lst, z_in_tup, z_isK_int_int, z_isK_int_bl, z_isK_int_str, z_isK_int_tup, z_isK_int_lst, z_isK_int_dic, z_isK_int_non, z_isK_bool_int, z_isK_bool_bl, z_isK_bool_str, z_isK_bool_tup, z_isK_bool_lst, z_isK_bool_dic, z_isK_bool_non, z_isK_str_int, z_isK_str_bl, z_isK_str_str, z_isK_str_tup, z_isK_str_lst, z_isK_str_dic, z_isK_str_non, z_isK_tuple_int, z_isK_tuple_bl, z_isK_tuple_str, z_isK_tuple_tup, z_isK_tuple_lst, z_isK_tuple_dic, z_isK_tuple_non, z_isK_list_int, z_isK_list_bl, z_isK_list_str, z_isK_list_tup, z_isK_list_lst, z_isK_list_dic, z_isK_list_non, z_isK_dict_int, z_isK_dict_bl, z_isK_dict_str, z_isK_dict_tup, z_isK_dict_lst, z_isK_dict_dic, z_isK_dict_non, z_items_lst, z_items_tup]
      exact hN
    · rw [← List.map_take, List.map_map]
      have e2 : (ns.take (Int.toNat 63)).map ((fun d => match d with | .int i => D.int (if i < 0 then -i else i) | _ => .non) ∘ D.int) = ((ns.take (Int.toNat 63)).map fun i => if i < 0 then -i else i).map D.int := by
        rw [List.map_map]
        rfl
      rw [e2]
      simp only [wSeq, wNext, wIfS, wAsg, wRet, wRetN, wDrop, wOp, wUn, wgSub, wBM, z_tyd_lst,  wCB, wCons, wNil, wVar, wVarF, wC, wgName, wTe, wAnd, wOr, DL.wNot, wAndV, wOrV, wNotV, wIf, wCh, wEq, wNe, wIsi, wIsi2, wCall, wNever, wTup, wLst, wSl, wNoPart, wPart, wYes, endD, startR, newL_f, newL_t, List.map, List.length, List.length_cons, List.length_nil, List.getElem?_cons_zero, List.getElem?_cons_succ, List.set_cons_zero, List.set_cons_succ, List.cons_append, List.nil_append, List.append_nil, List.replicate, Nat.reduceSub, Nat.reduceAdd, Option.some.injEq, ex_some_iff, ex_bl_iff, ex_int_iff, ex_tup_iff, exists_eq_left', true_and, and_true, rd_non, rd_bl, rd_int, rd_str, rd_tup, rd_lst, pl_int, pl_bl, pl_non, pl_tup, pl_lst, pl_str, isNon_int, isNon_bl, isNon_non, isNon_tup, isNon_str, isNon_ref, isNon_lst, okD_int, okD_bl, okD_non, eqD_int, eqD_bl, eqD_non, Bool.false_eq_true, if_true, if_false, ite_true, ite_false, Bool.not_true, Bool.not_false, D.int.injEq, D.tup.injEq, D.lst.injEq, D.ref.injEq, D.bl.injEq, MO.lst.injEq, List.cons.injEq, reduceCtorEq, false_and, and_false, exists_const, and_assoc, exists_and_left, exists_eq_left, wLc, wiSeq, wipeR, id, wiEnum, wiZip, wiRng1, wiRng2, wgTup, lenOk, wgCons, wgNil, wFor, wLstRg1, z_in_lst, z_in_tup, flat_int, flat_ints, inD_ints, wRev, wDic0, wExtend,  z_ix_0, z_ixt_0, z_ix_1, z_ixt_1, z_ix_2, z_ixt_2, z_ix_3, z_ixt_3, z_ix_4, z_ixt_4, z_ix_5, z_ixt_5, z_ix_6, z_ixt_6, z_ix_7, z_ixt_7, z_ix_8, z_ixt_8, z_add_int, z_add_tup, z_add_lst, z_add_str, z_mul_int, z_mul_tup, z_mul_lst, z_ib_int, z_ii_int, z_neg_int, z_len_lst, z_len_tup, z_len_str, z_abs_int, z_int_int, z_cii_int, z_tuple_lst, z_tuple_tup, z_list_lst, z_list_tup, z_cut_lst, z_cut_tup, z_rev_lst, z_rev_tup, z_isN_, z_notN_, z_isB_, z_notB_, z_w1_, z_w2_, z_in_lst, z_in_tup, z_isK_int_int, z_isK_int_bl, z_isK_int_str, z_isK_int_tup, z_isK_int_lst, z_isK_int_dic, z_isK_int_non, z_isK_bool_int, z_isK_bool_bl, z_isK_bool_str, z_isK_bool_tup, z_isK_bool_lst, z_isK_bool_dic, z_isK_bool_non, z_isK_str_int, z_isK_str_bl, z_isK_str_str, z_isK_str_tup, z_isK_str_lst, z_isK_str_dic, z_isK_str_non, z_isK_tuple_int, z_isK_tuple_bl, z_isK_tuple_str, z_isK_tuple_tup, z_isK_tuple_lst, z_isK_tuple_dic, z_isK_tuple_non, z_isK_list_int, z_isK_list_bl, z_isK_list_str, z_isK_list_tup, z_isK_list_lst, z_isK_list_dic, z_isK_list_non, z_isK_dict_int, z_isK_dict_bl, z_isK_dict_str, z_isK_dict_tup, z_isK_dict_lst, z_isK_dict_dic, z_isK_dict_non, z_items_lst, z_items_tup, e1]
      refine ⟨le_sz (by decide), fun t ht => ?_⟩
      have tc : t ≠ c := fun e => by
        rw [e, MS.set_same] at ht
        cases ht
      rw [MS.set_ne tc] at ht
      rw [opened_mk (Ne.symm tc)]
      refine outK.same (q t c _ _ ht hc (Ne.symm tc) ⟨0, 0, _, 0, rfl, Int.le_refl _, ?_⟩)
      rw [List.length_map, List.length_take]
      exact Nat.min_le_left _ _)
theorem D__law_hand (A : Al K mg) : Def P w K mg base CX0 1 "_law_hand" ["script"] sp__law_hand := by
  obtain ⟨f, fd, Fu, hm, hb⟩ := fu__law_hand A
  exact ⟨f, fd, O__law_hand A Fu, hm, Fu.kp, hb⟩
end
section
variable {P : Program} {w : World} {K : PySem.W.Frag} {mg : Str → Option Value} {base : Heap}
theorem V__law_hand (A : Al K mg) : Def P w K mg base CX0 1 "_law_hand" ["script"] (handSp JH) := hand_of intJH (D__law_hand A)
end
end W38
namespace W38
open PySem PySem.Spec PyProof.Rows L2 DL
theorem sc__law_draw : FnScope ["hand", "limit", "cell", "digit", "number"] ["hand", "limit"] (defScope s__law_draw) := ⟨rfl, rfl, rfl, by decide +kernel, rfl, by decide +kernel, by decide +kernel⟩
theorem ar__law_draw : ∀ ds S Q E, sp__law_draw ds S Q E → ds.length = 2 := by
  rintro ds S Q E h
  simp only [sp__law_draw] at h
  obtain ⟨_, h⟩ := h
  repeat (first | (obtain ⟨rfl, _⟩ := h; rfl) | (obtain ⟨_, h⟩ := h))
section
variable {P : Program} {w : World} {K : PySem.W.Frag} {mg : Str → Option Value} {base : Heap}
theorem O__law_draw (A : Al K mg) {f : Addr} {fd : FuncData} (Fu : FunD K "_law_draw" "_law_draw" (defArgs s__law_draw) (defBody s__law_draw) (defScope s__law_draw) [] [] f fd) : FnOk P w K mg base CX0 1 f fd ["hand", "limit"] (spD K sp__law_draw) := by
  refine fn_d Fu sc__law_draw ar__law_draw (fun cdv A0 outer s0 H0 E0' hr => ⟨_, _,
      (db_cons (ds_if (dt_w (dw_and (dt_cmp (op_eqK K hr.units) ro_eq (de_ixK K (de_var 0) de_int) de_int (nomark _)) (dw_and1 (dt_cmp op_lt ro_IB (de_ixK K (de_var 0) de_int) (de_cb (call_lenK K) roc_len rfl A.b_len (by decide +kernel) (da_cons (de_ixK K (de_var 0) de_int) da_nil)) (nomark _)))))
        (db_cons (ds_set 2 sc__law_draw.nd (de_ixK K (de_ixK K (de_var 0) de_int) (de_ixK K (de_var 0) de_int)))
        (db_cons (ds_asg (vs := []) (de_op (op_addK K) (ro_add false) (de_ixK K (de_var 0) de_int) de_int) (dg_setL (de_var 0) de_int))
        (db_cons (ds_asg (vs := []) (de_op op_mod ro_II (de_ct call_int1 roc_int rfl A.b_int (by decide +kernel) (da_cons (de_op (op_addK K) (ro_add false) (de_op (op_addK K) (ro_add false) (de_op (op_mulK K) (ro_mul false) (de_ixK K (de_var 0) de_int) de_int) (de_var 2)) de_int) da_nil)) de_int) (dg_setL (de_var 0) de_int))
        (db_one (ds_if (dt_cmp op_ge ro_IB (de_var 2) (de_op op_pow ro_II de_int de_int) (nomark _))
          (db_one (ds_asg (vs := []) (de_var 2) (dg_setL (de_var 0) de_int)))
          db_nil)))))
        db_nil)
      (db_cons (ds_if (dt_cmp op_gt ro_IB (de_ixK K (de_var 0) de_int) de_int (nomark _))
        (db_cons (ds_set 3 sc__law_draw.nd (de_op op_mod ro_II (de_ct call_int1 roc_int rfl A.b_int (by decide +kernel) (da_cons (de_ixK K (de_var 0) de_int) da_nil)) (de_var 1)))
        (db_cons (ds_asg (vs := []) (de_op op_fdiv ro_II (de_ixK K (de_var 0) de_int) (de_var 1)) (dg_setL (de_var 0) de_int))
        (db_one (ds_ret (de_var 3)))))
        db_nil)
      (db_cons (ds_asg (vs := []) (de_op (op_addK K) (ro_add false) (de_ixK K (de_var 0) de_int) de_int) (dg_setL (de_var 0) de_int))
      (db_cons (ds_set 4 sc__law_draw.nd (de_op op_mod ro_II (de_ct call_int1 roc_int rfl A.b_int (by decide +kernel) (da_cons (de_op (op_mulK K) (ro_mul false) (de_ct call_int1 roc_int rfl A.b_int (by decide +kernel) (da_cons (de_op (op_addK K) (ro_add false) (de_ixK K (de_var 0) de_int) (de_op (op_mulK K) (ro_mul false) de_int (de_ixK K (de_var 0) de_int))) da_nil)) de_int) da_nil)) de_int))
      (db_cons (ds_set 4 sc__law_draw.nd (de_op op_mod ro_II (de_ct call_int1 roc_int rfl A.b_int (by decide +kernel) (da_cons (de_op (op_mulK K) (ro_mul false) (de_var 4) (de_op (op_addK K) (ro_add false) (de_op op_fdiv ro_II (de_var 4) de_int) de_int)) da_nil)) de_int))
      (db_cons (ds_set 4 sc__law_draw.nd (de_op op_mod ro_II (de_ct call_int1 roc_int rfl A.b_int (by decide +kernel) (da_cons (de_op (op_mulK K) (ro_mul false) (de_var 4) (de_op (op_addK K) (ro_add false) (de_op op_fdiv ro_II (de_var 4) de_int) de_int)) da_nil)) de_int))
      (db_one (ds_ret (de_op op_mod ro_II (de_ct call_int1 roc_int rfl A.b_int (by decide +kernel) (da_cons (de_op op_fdiv ro_II (de_var 4) de_int) da_nil)) (de_var 1)))))))))),
      ?_⟩)
  all_goals (
    rintro ds S' Q Ed ⟨S, t, c, n, xs, cells, rfl, rfl, ⟨p, b, r, m, rfl, hp, hz⟩, sc, ct, hn, q⟩
    have e1 : ∀ (xs : List D) (cs : List Int), rd (opened S t c xs cs) (.ref t) = .lst xs := fun _ _ => z_rd_opt ct
    have e2 : ∀ (xs : List D) (cs : List Int), rd (opened S t c xs cs) (.ref c) = .lst (cs.map D.int) := fun _ _ => z_rd_opc
    have s1 : ∀ (a b c' d e v : D) (cs : List Int) (R : MS → Prop), wSetL (.ref t) (.int 1) v (opened S t c [a, b, c', d, e] cs) R ↔ R (opened S t c [a, v, c', d, e] cs) := fun _ _ _ _ _ _ _ _ => setL_op_iff (j := 1) ct rfl
    have s2 : ∀ (a b c' d e v : D) (cs : List Int) (R : MS → Prop), wSetL (.ref t) (.int 2) v (opened S t c [a, b, c', d, e] cs) R ↔ R (opened S t c [a, b, v, d, e] cs) := fun _ _ _ _ _ _ _ _ => setL_op_iff (j := 2) ct rfl
    have s3 : ∀ (a b c' d e v : D) (cs : List Int) (R : MS → Prop), wSetL (.ref t) (.int 3) v (opened S t c [a, b, c', d, e] cs) R ↔ R (opened S t c [a, b, c', v, e] cs) := fun _ _ _ _ _ _ _ _ => setL_op_iff (j := 3) ct rfl
    have s4 : ∀ (a b c' d e v : D) (cs : List Int) (R : MS → Prop), wSetL (.ref t) (.int 4) v (opened S t c [a, b, c', d, e] cs) R ↔ R (opened S t c [a, b, c', d, v] cs) := fun _ _ _ _ _ _ _ _ => setL_op_iff (j := 4) ct rfl
    have tn : Int.toNat 18 = 18 := rfl
    have fin : ∀ (i p b r m : Int), 0 ≤ p → 0 ≤ i → i < n → outK Q (.int i) (opened S t c [D.ref c, D.int p, D.int b, D.int r, D.int m] cells) := fun i p b r m h0 h1 h2 => outK.same (q i _ _ h1 h2 ⟨p, b, r, m, rfl, h0, hz⟩)
    have md : ∀ x : Int, 0 ≤ x % n ∧ x % n < n := fun x => ⟨Int.emod_nonneg _ (by omega), Int.emod_lt_of_pos _ hn.1⟩
    simp only [wSeq, wNext, wIfS, wAsg, wRet, wRetN, wDrop, wOp, wUn, wgSub, wBM, z_tyd_lst,  wCB, wCons, wNil, wVar, wVarF, wC, wgName, wTe, wAnd, wOr, DL.wNot, wAndV, wOrV, wNotV, wIf, wCh, wEq, wNe, wIsi, wIsi2, wCall, wNever, wTup, wLst, wSl, wNoPart, wPart, wYes, endD, startR, newL_f, newL_t, List.map, List.length, List.length_cons, List.length_nil, List.getElem?_cons_zero, List.getElem?_cons_succ, List.set_cons_zero, List.set_cons_succ, List.cons_append, List.nil_append, List.append_nil, List.replicate, Nat.reduceSub, Nat.reduceAdd, Option.some.injEq, ex_some_iff, ex_bl_iff, ex_int_iff, ex_tup_iff, exists_eq_left', true_and, and_true, rd_non, rd_bl, rd_int, rd_str, rd_tup, rd_lst, pl_int, pl_bl, pl_non, pl_tup, pl_lst, pl_str, isNon_int, isNon_bl, isNon_non, isNon_tup, isNon_str, isNon_ref, isNon_lst, okD_int, okD_bl, okD_non, eqD_int, eqD_bl, eqD_non, Bool.false_eq_true, if_true, if_false, ite_true, ite_false, Bool.not_true, Bool.not_false, D.int.injEq, D.tup.injEq, D.lst.injEq, D.ref.injEq, D.bl.injEq, MO.lst.injEq, List.cons.injEq, reduceCtorEq, false_and, and_false, exists_const, and_assoc, exists_and_left, exists_eq_left, wLc, wiSeq, wipeR, id, wiEnum, wiZip, wiRng1, wiRng2, wgTup, lenOk, wgCons, wgNil, wFor, wLstRg1, z_in_lst, z_in_tup, flat_int, flat_ints, inD_ints, wRev, wDic0, wExtend,  z_ix_0, z_ixt_0, z_ix_1, z_ixt_1, z_ix_2, z_ixt_2, z_ix_3, z_ixt_3, z_ix_4, z_ixt_4, z_ix_5, z_ixt_5, z_ix_6, z_ixt_6, z_ix_7, z_ixt_7, z_ix_8, z_ixt_8, z_add_int, z_add_tup, z_add_lst, z_add_str, z_mul_int, z_mul_tup, z_mul_lst, z_ib_int, z_ii_int, z_neg_int, z_len_lst, z_len_tup, z_len_str, z_abs_int, z_int_int, z_cii_int, z_tuple_lst, z_tuple_tup, z_list_lst, z_list_tup, z_cut_lst, z_cut_tup, z_rev_lst, z_rev_tup, z_isN_, z_notN_, z_isB_, z_notB_, z_w1_, z_w2_, z_in_lst, z_in_tup, z_isK_int_int, z_isK_int_bl, z_isK_int_str, z_isK_int_tup, z_isK_int_lst, z_isK_int_dic, z_isK_int_non, z_isK_bool_int, z_isK_bool_bl, z_isK_bool_str, z_isK_bool_tup, z_isK_bool_lst, z_isK_bool_dic, z_isK_bool_non, z_isK_str_int, z_isK_str_bl, z_isK_str_str, z_isK_str_tup, z_isK_str_lst, z_isK_str_dic, z_isK_str_non, z_isK_tuple_int, z_isK_tuple_bl, z_isK_tuple_str, z_isK_tuple_tup, z_isK_tuple_lst, z_isK_tuple_dic, z_isK_tuple_non, z_isK_list_int, z_isK_list_bl, z_isK_list_str, z_isK_list_tup, z_isK_list_lst, z_isK_list_dic, z_isK_list_non, z_isK_dict_int, z_isK_dict_bl, z_isK_dict_str, z_isK_dict_tup, z_isK_dict_lst, z_isK_dict_dic, z_isK_dict_non, z_items_lst, z_items_tup, e1, e2, s1, s2, s3, s4]
    have cmr : ∀ x k : Int, -(2 ^ 64) < k ∧ k < 2 ^ 64 → CMul x k := fun x k h => .inr h
    have cml : ∀ x k : Int, -(2 ^ 64) < x ∧ x < 2 ^ 64 → CMul x k := fun x k h => .inl h
    refine ite_bl (fun h => ?_) (fun h => ?_)
    · refine ite_bl (fun h2 => ?_) (fun h2 => ?_)
      · have h2' : p < (cells.map D.int).length := of_decide_eq_true h2
        have h3 : p.toNat < cells.length := by rw [List.length_map] at h2'; omega
        have e4 : (cells.map D.int).getD p.toNat .non = .int (cells.getD p.toNat 0) := by
          rw [List.getD_eq_getElem?_getD, List.getD_eq_getElem?_getD, List.getElem?_map, List.getElem?_eq_getElem h3]
          rfl
        generalize cells.getD p.toNat 0 = cell at e4
        simp only [wSeq, wNext, wIfS, wAsg, wRet, wRetN, wDrop, wOp, wUn, wgSub, wBM, z_tyd_lst,  wCB, wCons, wNil, wVar, wVarF, wC, wgName, wTe, wAnd, wOr, DL.wNot, wAndV, wOrV, wNotV, wIf, wCh, wEq, wNe, wIsi, wIsi2, wCall, wNever, wTup, wLst, wSl, wNoPart, wPart, wYes, endD, startR, newL_f, newL_t, List.map, List.length, List.length_cons, List.length_nil, List.getElem?_cons_zero, List.getElem?_cons_succ, List.set_cons_zero, List.set_cons_succ, List.cons_append, List.nil_append, List.append_nil, List.replicate, Nat.reduceSub, Nat.reduceAdd, Option.some.injEq, ex_some_iff, ex_bl_iff, ex_int_iff, ex_tup_iff, exists_eq_left', true_and, and_true, rd_non, rd_bl, rd_int, rd_str, rd_tup, rd_lst, pl_int, pl_bl, pl_non, pl_tup, pl_lst, pl_str, isNon_int, isNon_bl, isNon_non, isNon_tup, isNon_str, isNon_ref, isNon_lst, okD_int, okD_bl, okD_non, eqD_int, eqD_bl, eqD_non, Bool.false_eq_true, if_true, if_false, ite_true, ite_false, Bool.not_true, Bool.not_false, D.int.injEq, D.tup.injEq, D.lst.injEq, D.ref.injEq, D.bl.injEq, MO.lst.injEq, List.cons.injEq, reduceCtorEq, false_and, and_false, exists_const, and_assoc, exists_and_left, exists_eq_left, wLc, wiSeq, wipeR, id, wiEnum, wiZip, wiRng1, wiRng2, wgTup, lenOk, wgCons, wgNil, wFor, wLstRg1, z_in_lst, z_in_tup, flat_int, flat_ints, inD_ints, wRev, wDic0, wExtend,  z_ix_0, z_ixt_0, z_ix_1, z_ixt_1, z_ix_2, z_ixt_2, z_ix_3, z_ixt_3, z_ix_4, z_ixt_4, z_ix_5, z_ixt_5, z_ix_6, z_ixt_6, z_ix_7, z_ixt_7, z_ix_8, z_ixt_8, z_add_int, z_add_tup, z_add_lst, z_add_str, z_mul_int, z_mul_tup, z_mul_lst, z_ib_int, z_ii_int, z_neg_int, z_len_lst, z_len_tup, z_len_str, z_abs_int, z_int_int, z_cii_int, z_tuple_lst, z_tuple_tup, z_list_lst, z_list_tup, z_cut_lst, z_cut_tup, z_rev_lst, z_rev_tup, z_isN_, z_notN_, z_isB_, z_notB_, z_w1_, z_w2_, z_in_lst, z_in_tup, z_isK_int_int, z_isK_int_bl, z_isK_int_str, z_isK_int_tup, z_isK_int_lst, z_isK_int_dic, z_isK_int_non, z_isK_bool_int, z_isK_bool_bl, z_isK_bool_str, z_isK_bool_tup, z_isK_bool_lst, z_isK_bool_dic, z_isK_bool_non, z_isK_str_int, z_isK_str_bl, z_isK_str_str, z_isK_str_tup, z_isK_str_lst, z_isK_str_dic, z_isK_str_non, z_isK_tuple_int, z_isK_tuple_bl, z_isK_tuple_str, z_isK_tuple_tup, z_isK_tuple_lst, z_isK_tuple_dic, z_isK_tuple_non, z_isK_list_int, z_isK_list_bl, z_isK_list_str, z_isK_list_tup, z_isK_list_lst, z_isK_list_dic, z_isK_list_non, z_isK_dict_int, z_isK_dict_bl, z_isK_dict_str, z_isK_dict_tup, z_isK_dict_lst, z_isK_dict_dic, z_isK_dict_non, z_items_lst, z_items_tup, e1, e2, s1, s2, s3, s4, z_ix_lt hp h2', e4]
        repeat' first | with_reducible exact fin _ _ _ _ _ (by omega) (md _).1 (md _).2 | with_reducible apply And.intro | refine ite_bl (fun _ => ?_) (fun _ => ?_) | exact ⟨by decide, by decide, by decide⟩ | exact ⟨by omega, by omega⟩ | exact cmr _ _ (by omega) | exact cml _ _ (by omega) | omega
      · repeat' first | with_reducible exact fin _ _ _ _ _ (by omega) (md _).1 (md _).2 | with_reducible apply And.intro | refine ite_bl (fun _ => ?_) (fun _ => ?_) | exact ⟨by omega, by omega⟩ | exact cmr _ _ (by omega) | exact cml _ _ (by omega) | omega
    · repeat' first | with_reducible exact fin _ _ _ _ _ (by omega) (md _).1 (md _).2 | with_reducible apply And.intro | refine ite_bl (fun _ => ?_) (fun _ => ?_) | exact ⟨by omega, by omega⟩ | exact cmr _ _ (by omega) | exact cml _ _ (by omega) | omega)
theorem D__law_draw (A : Al K mg) : Def P w K mg base CX0 1 "_law_draw" ["hand", "limit"] sp__law_draw := by
  obtain ⟨f, fd, Fu, hm, hb⟩ := fu__law_draw A
  exact ⟨f, fd, O__law_draw A Fu, hm, Fu.kp, hb⟩
end
section
variable {P : Program} {w : World} {K : PySem.W.Frag} {mg : Str → Option Value} {base : Heap}
theorem V__law_draw (A : Al K mg) : Def P w K mg base CX0 1 "_law_draw" ["hand", "limit"] (drawSp JH) := draw_of intJH (D__law_draw A)
end
end W38
namespace W38
open PySem PySem.Spec PyProof.Rows L2 DL
theorem sc__law_is : FnScope ["thing", "due", "one", "other"] ["thing", "due"] (defScope s__law_is) := ⟨rfl, rfl, rfl, by decide +kernel, rfl, by decide +kernel, by decide +kernel⟩
theorem ar__law_is : ∀ ds S Q E, sp__law_is ds S Q E → ds.length = 2 := by
  rintro ds S Q E h
  simp only [sp__law_is] at h
  obtain ⟨_, h⟩ := h
  repeat (first | (obtain ⟨rfl, _⟩ := h; rfl) | (obtain ⟨_, h⟩ := h))
section
variable {P : Program} {w : World} {K : PySem.W.Frag} {mg : Str → Option Value} {base : Heap}
theorem O__law_is (A : Al K mg) {f : Addr} {fd : FuncData} (Fu : FunD K "_law_is" "_law_is" (defArgs s__law_is) (defBody s__law_is) (defScope s__law_is) [] [] f fd) : FnOk P w K mg base CX0 1 f fd ["thing", "due"] (spD K sp__law_is) := by
  refine fn_d Fu sc__law_is ar__law_is (fun cdv A0 outer s0 H0 E0' hr => ⟨_, _,
      (db_cons (ds_if (dt_val (de_isi2K K .tuple .list rfl A.b_isinstance (de_var 1) A.b_tuple A.b_list))
        db_never
        db_nil)
      (db_cons (ds_if (dt_w (dw_or (dt_cmp op_isN ro_isN (de_var 1) de_non (nomark _)) (dw_or1 (dt_cmp op_isN ro_isN (de_var 0) de_non (nomark _)))))
        (db_one (ds_ret (de_and (de_cmp op_isN ro_isN (de_var 1) de_non (nomark _)) (de_one (de_cmp op_isN ro_isN (de_var 0) de_non (nomark _))))))
        db_nil)
      (db_cons (ds_if (dt_w (dw_or (dt_val (de_isiK K .bool rfl A.b_isinstance (de_var 1) A.b_bool)) (dw_or1 (dt_val (de_isiK K .bool rfl A.b_isinstance (de_var 0) A.b_bool)))))
        (db_one (ds_ret (de_and (de_isiK K .bool rfl A.b_isinstance (de_var 1) A.b_bool) (de_and (de_isiK K .bool rfl A.b_isinstance (de_var 0) A.b_bool) (de_one (de_cmp (op_eqK K hr.units) ro_eq (de_var 0) (de_var 1) (nomark _)))))))
        db_nil)
      (db_one (ds_ret (de_and (de_isi2K K .int .str rfl A.b_isinstance (de_var 0) A.b_int A.b_str) (de_and (de_cmp (op_eqK K hr.units) ro_eq (de_isiK K .str rfl A.b_isinstance (de_var 0) A.b_str) (de_isiK K .str rfl A.b_isinstance (de_var 1) A.b_str) (nomark _)) (de_one (de_cmp (op_eqK K hr.units) ro_eq (de_var 0) (de_var 1) (nomark _)))))))))),
      ?_⟩)
  all_goals (
    rintro ds S Q Ed ⟨a, b, rfl, q⟩
    simp only [wSeq, wNext, wIfS, wAsg, wRet, wRetN, wDrop, wOp, wUn, wgSub, wBM, z_tyd_lst,  wCB, wCons, wNil, wVar, wVarF, wC, wgName, wTe, wAnd, wOr, DL.wNot, wAndV, wOrV, wNotV, wIf, wCh, wEq, wNe, wIsi, wIsi2, wCall, wNever, wTup, wLst, wSl, wNoPart, wPart, wYes, endD, startR, newL_f, newL_t, List.map, List.length, List.length_cons, List.length_nil, List.getElem?_cons_zero, List.getElem?_cons_succ, List.set_cons_zero, List.set_cons_succ, List.cons_append, List.nil_append, List.append_nil, List.replicate, Nat.reduceSub, Nat.reduceAdd, Option.some.injEq, ex_some_iff, ex_bl_iff, ex_int_iff, ex_tup_iff, exists_eq_left', true_and, and_true, rd_non, rd_bl, rd_int, rd_str, rd_tup, rd_lst, pl_int, pl_bl, pl_non, pl_tup, pl_lst, pl_str, isNon_int, isNon_bl, isNon_non, isNon_tup, isNon_str, isNon_ref, isNon_lst, okD_int, okD_bl, okD_non, eqD_int, eqD_bl, eqD_non, Bool.false_eq_true, if_true, if_false, ite_true, ite_false, Bool.not_true, Bool.not_false, D.int.injEq, D.tup.injEq, D.lst.injEq, D.ref.injEq, D.bl.injEq, MO.lst.injEq, List.cons.injEq, reduceCtorEq, false_and, and_false, exists_const, and_assoc, exists_and_left, exists_eq_left, wLc, wiSeq, wipeR, id, wiEnum, wiZip, wiRng1, wiRng2, wgTup, lenOk, wgCons, wgNil, wFor, wLstRg1, z_in_lst, z_in_tup, flat_int, flat_ints, inD_ints, wRev, wDic0, wExtend,  z_ix_0, z_ixt_0, z_ix_1, z_ixt_1, z_ix_2, z_ixt_2, z_ix_3, z_ixt_3, z_ix_4, z_ixt_4, z_ix_5, z_ixt_5, z_ix_6, z_ixt_6, z_ix_7, z_ixt_7, z_ix_8, z_ixt_8, z_add_int, z_add_tup, z_add_lst, z_add_str, z_mul_int, z_mul_tup, z_mul_lst, z_ib_int, z_ii_int, z_neg_int, z_len_lst, z_len_tup, z_len_str, z_abs_int, z_int_int, z_cii_int, z_tuple_lst, z_tuple_tup, z_list_lst, z_list_tup, z_cut_lst, z_cut_tup, z_rev_lst, z_rev_tup, z_isN_, z_notN_, z_isB_, z_notB_, z_w1_, z_w2_, z_in_lst, z_in_tup, z_isK_int_int, z_isK_int_bl, z_isK_int_str, z_isK_int_tup, z_isK_int_lst, z_isK_int_dic, z_isK_int_non, z_isK_bool_int, z_isK_bool_bl, z_isK_bool_str, z_isK_bool_tup, z_isK_bool_lst, z_isK_bool_dic, z_isK_bool_non, z_isK_str_int, z_isK_str_bl, z_isK_str_str, z_isK_str_tup, z_isK_str_lst, z_isK_str_dic, z_isK_str_non, z_isK_tuple_int, z_isK_tuple_bl, z_isK_tuple_str, z_isK_tuple_tup, z_isK_tuple_lst, z_isK_tuple_dic, z_isK_tuple_non, z_isK_list_int, z_isK_list_bl, z_isK_list_str, z_isK_list_tup, z_isK_list_lst, z_isK_list_dic, z_isK_list_non, z_isK_dict_int, z_isK_dict_bl, z_isK_dict_str, z_isK_dict_tup, z_isK_dict_lst, z_isK_dict_dic, z_isK_dict_non, z_items_lst, z_items_tup]
    exact outK.same q)
theorem D__law_is (A : Al K mg) : Def P w K mg base CX0 1 "_law_is" ["thing", "due"] sp__law_is := by
  obtain ⟨f, fd, Fu, hm, hb⟩ := fu__law_is A
  exact ⟨f, fd, O__law_is A Fu, hm, Fu.kp, hb⟩
end
end W38
namespace W38
open PySem PySem.Spec PyProof.Rows L2 DL
theorem sc__law_int : FnScope ["thing", "least", "most"] ["thing", "least", "most"] (defScope s__law_int) := ⟨rfl, rfl, rfl, by decide +kernel, rfl, by decide +kernel, by decide +kernel⟩
theorem ar__law_int : ∀ ds S Q E, sp__law_int ds S Q E → ds.length = 3 := by
  rintro ds S Q E h
  simp only [sp__law_int] at h
  obtain ⟨_, h⟩ := h
  repeat (first | (obtain ⟨rfl, _⟩ := h; rfl) | (obtain ⟨_, h⟩ := h))
section
variable {P : Program} {w : World} {K : PySem.W.Frag} {mg : Str → Option Value} {base : Heap}
theorem O__law_int (A : Al K mg) {f : Addr} {fd : FuncData} (Fu : FunD K "_law_int" "_law_int" (defArgs s__law_int) (defBody s__law_int) (defScope s__law_int) [] [] f fd) : FnOk P w K mg base CX0 1 f fd ["thing", "least", "most"] (spD K sp__law_int) := by
  refine fn_d Fu sc__law_int ar__law_int (fun cdv A0 outer s0 H0 E0' hr => ⟨_, _,
      (db_one (ds_ret (de_and (de_isiK K .int rfl A.b_isinstance (de_var 0) A.b_int) (de_and (de_not (de_isiK K .bool rfl A.b_isinstance (de_var 0) A.b_bool)) (de_one (de_ch op_le op_le ro_IB ro_IB (de_var 1) (de_var 0) (de_var 2))))))),
      ?_⟩)
  all_goals (
    rintro ds S Q Ed ⟨x, lo, hi, rfl, pl, q⟩
    simp only [wSeq, wNext, wIfS, wAsg, wRet, wRetN, wDrop, wOp, wUn, wgSub, wBM, z_tyd_lst,  wCB, wCons, wNil, wVar, wVarF, wC, wgName, wTe, wAnd, wOr, DL.wNot, wAndV, wOrV, wNotV, wIf, wCh, wEq, wNe, wIsi, wIsi2, wCall, wNever, wTup, wLst, wSl, wNoPart, wPart, wYes, endD, startR, newL_f, newL_t, List.map, List.length, List.length_cons, List.length_nil, List.getElem?_cons_zero, List.getElem?_cons_succ, List.set_cons_zero, List.set_cons_succ, List.cons_append, List.nil_append, List.append_nil, List.replicate, Nat.reduceSub, Nat.reduceAdd, Option.some.injEq, ex_some_iff, ex_bl_iff, ex_int_iff, ex_tup_iff, exists_eq_left', true_and, and_true, rd_non, rd_bl, rd_int, rd_str, rd_tup, rd_lst, pl_int, pl_bl, pl_non, pl_tup, pl_lst, pl_str, isNon_int, isNon_bl, isNon_non, isNon_tup, isNon_str, isNon_ref, isNon_lst, okD_int, okD_bl, okD_non, eqD_int, eqD_bl, eqD_non, Bool.false_eq_true, if_true, if_false, ite_true, ite_false, Bool.not_true, Bool.not_false, D.int.injEq, D.tup.injEq, D.lst.injEq, D.ref.injEq, D.bl.injEq, MO.lst.injEq, List.cons.injEq, reduceCtorEq, false_and, and_false, exists_const, and_assoc, exists_and_left, exists_eq_left, wLc, wiSeq, wipeR, id, wiEnum, wiZip, wiRng1, wiRng2, wgTup, lenOk, wgCons, wgNil, wFor, wLstRg1, z_in_lst, z_in_tup, flat_int, flat_ints, inD_ints, wRev, wDic0, wExtend,  z_ix_0, z_ixt_0, z_ix_1, z_ixt_1, z_ix_2, z_ixt_2, z_ix_3, z_ixt_3, z_ix_4, z_ixt_4, z_ix_5, z_ixt_5, z_ix_6, z_ixt_6, z_ix_7, z_ixt_7, z_ix_8, z_ixt_8, z_add_int, z_add_tup, z_add_lst, z_add_str, z_mul_int, z_mul_tup, z_mul_lst, z_ib_int, z_ii_int, z_neg_int, z_len_lst, z_len_tup, z_len_str, z_abs_int, z_int_int, z_cii_int, z_tuple_lst, z_tuple_tup, z_list_lst, z_list_tup, z_cut_lst, z_cut_tup, z_rev_lst, z_rev_tup, z_isN_, z_notN_, z_isB_, z_notB_, z_w1_, z_w2_, z_in_lst, z_in_tup, z_isK_int_int, z_isK_int_bl, z_isK_int_str, z_isK_int_tup, z_isK_int_lst, z_isK_int_dic, z_isK_int_non, z_isK_bool_int, z_isK_bool_bl, z_isK_bool_str, z_isK_bool_tup, z_isK_bool_lst, z_isK_bool_dic, z_isK_bool_non, z_isK_str_int, z_isK_str_bl, z_isK_str_str, z_isK_str_tup, z_isK_str_lst, z_isK_str_dic, z_isK_str_non, z_isK_tuple_int, z_isK_tuple_bl, z_isK_tuple_str, z_isK_tuple_tup, z_isK_tuple_lst, z_isK_tuple_dic, z_isK_tuple_non, z_isK_list_int, z_isK_list_bl, z_isK_list_str, z_isK_list_tup, z_isK_list_lst, z_isK_list_dic, z_isK_list_non, z_isK_dict_int, z_isK_dict_bl, z_isK_dict_str, z_isK_dict_tup, z_isK_dict_lst, z_isK_dict_dic, z_isK_dict_non, z_items_lst, z_items_tup, rd_pl pl, pl]
    cases x <;> first | exact outK.same q | skip
    rename_i i
    simp only [wSeq, wNext, wIfS, wAsg, wRet, wRetN, wDrop, wOp, wUn, wgSub, wBM, z_tyd_lst,  wCB, wCons, wNil, wVar, wVarF, wC, wgName, wTe, wAnd, wOr, DL.wNot, wAndV, wOrV, wNotV, wIf, wCh, wEq, wNe, wIsi, wIsi2, wCall, wNever, wTup, wLst, wSl, wNoPart, wPart, wYes, endD, startR, newL_f, newL_t, List.map, List.length, List.length_cons, List.length_nil, List.getElem?_cons_zero, List.getElem?_cons_succ, List.set_cons_zero, List.set_cons_succ, List.cons_append, List.nil_append, List.append_nil, List.replicate, Nat.reduceSub, Nat.reduceAdd, Option.some.injEq, ex_some_iff, ex_bl_iff, ex_int_iff, ex_tup_iff, exists_eq_left', true_and, and_true, rd_non, rd_bl, rd_int, rd_str, rd_tup, rd_lst, pl_int, pl_bl, pl_non, pl_tup, pl_lst, pl_str, isNon_int, isNon_bl, isNon_non, isNon_tup, isNon_str, isNon_ref, isNon_lst, okD_int, okD_bl, okD_non, eqD_int, eqD_bl, eqD_non, Bool.false_eq_true, if_true, if_false, ite_true, ite_false, Bool.not_true, Bool.not_false, D.int.injEq, D.tup.injEq, D.lst.injEq, D.ref.injEq, D.bl.injEq, MO.lst.injEq, List.cons.injEq, reduceCtorEq, false_and, and_false, exists_const, and_assoc, exists_and_left, exists_eq_left, wLc, wiSeq, wipeR, id, wiEnum, wiZip, wiRng1, wiRng2, wgTup, lenOk, wgCons, wgNil, wFor, wLstRg1, z_in_lst, z_in_tup, flat_int, flat_ints, inD_ints, wRev, wDic0, wExtend,  z_ix_0, z_ixt_0, z_ix_1, z_ixt_1, z_ix_2, z_ixt_2, z_ix_3, z_ixt_3, z_ix_4, z_ixt_4, z_ix_5, z_ixt_5, z_ix_6, z_ixt_6, z_ix_7, z_ixt_7, z_ix_8, z_ixt_8, z_add_int, z_add_tup, z_add_lst, z_add_str, z_mul_int, z_mul_tup, z_mul_lst, z_ib_int, z_ii_int, z_neg_int, z_len_lst, z_len_tup, z_len_str, z_abs_int, z_int_int, z_cii_int, z_tuple_lst, z_tuple_tup, z_list_lst, z_list_tup, z_cut_lst, z_cut_tup, z_rev_lst, z_rev_tup, z_isN_, z_notN_, z_isB_, z_notB_, z_w1_, z_w2_, z_in_lst, z_in_tup, z_isK_int_int, z_isK_int_bl, z_isK_int_str, z_isK_int_tup, z_isK_int_lst, z_isK_int_dic, z_isK_int_non, z_isK_bool_int, z_isK_bool_bl, z_isK_bool_str, z_isK_bool_tup, z_isK_bool_lst, z_isK_bool_dic, z_isK_bool_non, z_isK_str_int, z_isK_str_bl, z_isK_str_str, z_isK_str_tup, z_isK_str_lst, z_isK_str_dic, z_isK_str_non, z_isK_tuple_int, z_isK_tuple_bl, z_isK_tuple_str, z_isK_tuple_tup, z_isK_tuple_lst, z_isK_tuple_dic, z_isK_tuple_non, z_isK_list_int, z_isK_list_bl, z_isK_list_str, z_isK_list_tup, z_isK_list_lst, z_isK_list_dic, z_isK_list_non, z_isK_dict_int, z_isK_dict_bl, z_isK_dict_str, z_isK_dict_tup, z_isK_dict_lst, z_isK_dict_dic, z_isK_dict_non, z_items_lst, z_items_tup]
    refine ite_bl (fun h => ?_) (fun h => ?_) <;> simp only [isWithin, h, Bool.true_and, Bool.false_and] at q <;> exact outK.same q)
theorem D__law_int (A : Al K mg) : Def P w K mg base CX0 1 "_law_int" ["thing", "least", "most"] sp__law_int := by
  obtain ⟨f, fd, Fu, hm, hb⟩ := fu__law_int A
  exact ⟨f, fd, O__law_int A Fu, hm, Fu.kp, hb⟩
end
end W38
namespace W38
open PySem PySem.Spec PyProof.Rows L2 DL
theorem sc__law_passes : FnScope ["thing", "order", "state", "layer"] ["thing", "order"] (defScope s__law_passes) := ⟨rfl, rfl, rfl, by decide +kernel, rfl, by decide +kernel, by decide +kernel⟩
theorem ar__law_passes : ∀ ds S Q E, sp__law_passes ds S Q E → ds.length = 2 := by
  rintro ds S Q E h
  simp only [sp__law_passes] at h
  obtain ⟨_, h⟩ := h
  repeat (first | (obtain ⟨rfl, _⟩ := h; rfl) | (obtain ⟨_, h⟩ := h))
section
variable {P : Program} {w : World} {K : PySem.W.Frag} {mg : Str → Option Value} {base : Heap}
theorem O__law_passes (A : Al K mg) {f : Addr} {fd : FuncData} (Fu : FunD K "_law_passes" "_law_passes" (defArgs s__law_passes) (defBody s__law_passes) (defScope s__law_passes) [] [] f fd) : FnOk P w K mg base CX0 1 f fd ["thing", "order"] (spD K sp__law_passes) := by
  refine fn_d Fu sc__law_passes ar__law_passes (fun cdv A0 outer s0 H0 E0' hr => ⟨_, _,
      (db_cons (ds_set 2 sc__law_passes.nd de_int)
      (db_cons (ds_for (vs := [3]) PassesOwn.never rfl (di_seqK K (de_var 1)) (dg_name (vs := [3]) 3 (by decide) sc__law_passes.nd)
        (db_cons (ds_set 2 sc__law_passes.nd (de_ixK K (de_ixK K (de_var 0) (de_var 2)) (de_var 3)))
        (db_one (ds_if (dt_cmp op_isN ro_isN (de_var 2) de_non (nomark _))
          (db_one (ds_ret de_bl))
          db_nil))))
      (db_one (ds_ret (de_cmp (op_eqK K hr.units) ro_eq (de_var 2) (de_op op_sub ro_I0 (de_cb (call_lenK K) roc_len rfl A.b_len (by decide +kernel) (da_cons (de_var 0) da_nil)) de_int) (nomark _)))))),
      ?_⟩)
  all_goals (
    rintro ds S Q Ed ⟨count, rows, order, rfl, hs, ho, q⟩
    simp only [wSeq, wNext, wIfS, wAsg, wRet, wRetN, wDrop, wOp, wUn, wgSub, wBM, z_tyd_lst,  wCB, wCons, wNil, wVar, wVarF, wC, wgName, wTe, wAnd, wOr, DL.wNot, wAndV, wOrV, wNotV, wIf, wCh, wEq, wNe, wIsi, wIsi2, wCall, wNever, wTup, wLst, wSl, wNoPart, wPart, wYes, endD, startR, newL_f, newL_t, List.map, List.length, List.length_cons, List.length_nil, List.getElem?_cons_zero, List.getElem?_cons_succ, List.set_cons_zero, List.set_cons_succ, List.cons_append, List.nil_append, List.append_nil, List.replicate, Nat.reduceSub, Nat.reduceAdd, Option.some.injEq, ex_some_iff, ex_bl_iff, ex_int_iff, ex_tup_iff, exists_eq_left', true_and, and_true, rd_non, rd_bl, rd_int, rd_str, rd_tup, rd_lst, pl_int, pl_bl, pl_non, pl_tup, pl_lst, pl_str, isNon_int, isNon_bl, isNon_non, isNon_tup, isNon_str, isNon_ref, isNon_lst, okD_int, okD_bl, okD_non, eqD_int, eqD_bl, eqD_non, Bool.false_eq_true, if_true, if_false, ite_true, ite_false, Bool.not_true, Bool.not_false, D.int.injEq, D.tup.injEq, D.lst.injEq, D.ref.injEq, D.bl.injEq, MO.lst.injEq, List.cons.injEq, reduceCtorEq, false_and, and_false, exists_const, and_assoc, exists_and_left, exists_eq_left, wLc, wiSeq, wipeR, id, wiEnum, wiZip, wiRng1, wiRng2, wgTup, lenOk, wgCons, wgNil, wFor, wLstRg1, z_in_lst, z_in_tup, flat_int, flat_ints, inD_ints, wRev, wDic0, wExtend,  z_ix_0, z_ixt_0, z_ix_1, z_ixt_1, z_ix_2, z_ixt_2, z_ix_3, z_ixt_3, z_ix_4, z_ixt_4, z_ix_5, z_ixt_5, z_ix_6, z_ixt_6, z_ix_7, z_ixt_7, z_ix_8, z_ixt_8, z_add_int, z_add_tup, z_add_lst, z_add_str, z_mul_int, z_mul_tup, z_mul_lst, z_ib_int, z_ii_int, z_neg_int, z_len_lst, z_len_tup, z_len_str, z_abs_int, z_int_int, z_cii_int, z_tuple_lst, z_tuple_tup, z_list_lst, z_list_tup, z_cut_lst, z_cut_tup, z_rev_lst, z_rev_tup, z_isN_, z_notN_, z_isB_, z_notB_, z_w1_, z_w2_, z_in_lst, z_in_tup, z_isK_int_int, z_isK_int_bl, z_isK_int_str, z_isK_int_tup, z_isK_int_lst, z_isK_int_dic, z_isK_int_non, z_isK_bool_int, z_isK_bool_bl, z_isK_bool_str, z_isK_bool_tup, z_isK_bool_lst, z_isK_bool_dic, z_isK_bool_non, z_isK_str_int, z_isK_str_bl, z_isK_str_str, z_isK_str_tup, z_isK_str_lst, z_isK_str_dic, z_isK_str_non, z_isK_tuple_int, z_isK_tuple_bl, z_isK_tuple_str, z_isK_tuple_tup, z_isK_tuple_lst, z_isK_tuple_dic, z_isK_tuple_non, z_isK_list_int, z_isK_list_bl, z_isK_list_str, z_isK_list_tup, z_isK_list_lst, z_isK_list_dic, z_isK_list_non, z_isK_dict_int, z_isK_dict_bl, z_isK_dict_str, z_isK_dict_tup, z_isK_dict_lst, z_isK_dict_dic, z_isK_dict_non, z_items_lst, z_items_tup]
    refine forW_n (fun i ρ S' => S' = S ∧ ∃ z s, ρ = [some (D.tup rows), some (D.tup (List.map D.int order)), some (D.int s), z] ∧ (order.take i).foldl (stepD rows) (some 0) = some s ∧ 0 ≤ s ∧ s < rows.length) (fun _ _ _ _ => trivial) (fun i d ρ S' hd h N hN => ?hs) (fun ρ S' h => ?hd) ⟨rfl, none, 0, rfl, rfl, Int.le_refl _, by have := screen_len hs; omega⟩
    case hd =>
      obtain ⟨rfl, z, s, rfl, h1, hb⟩ := h
      rw [List.length_map, List.take_length] at h1
      simp only [passD, h1] at q
      simp only [wSeq, wNext, wIfS, wAsg, wRet, wRetN, wDrop, wOp, wUn, wgSub, wBM, z_tyd_lst,  wCB, wCons, wNil, wVar, wVarF, wC, wgName, wTe, wAnd, wOr, DL.wNot, wAndV, wOrV, wNotV, wIf, wCh, wEq, wNe, wIsi, wIsi2, wCall, wNever, wTup, wLst, wSl, wNoPart, wPart, wYes, endD, startR, newL_f, newL_t, List.map, List.length, List.length_cons, List.length_nil, List.getElem?_cons_zero, List.getElem?_cons_succ, List.set_cons_zero, List.set_cons_succ, List.cons_append, List.nil_append, List.append_nil, List.replicate, Nat.reduceSub, Nat.reduceAdd, Option.some.injEq, ex_some_iff, ex_bl_iff, ex_int_iff, ex_tup_iff, exists_eq_left', true_and, and_true, rd_non, rd_bl, rd_int, rd_str, rd_tup, rd_lst, pl_int, pl_bl, pl_non, pl_tup, pl_lst, pl_str, isNon_int, isNon_bl, isNon_non, isNon_tup, isNon_str, isNon_ref, isNon_lst, okD_int, okD_bl, okD_non, eqD_int, eqD_bl, eqD_non, Bool.false_eq_true, if_true, if_false, ite_true, ite_false, Bool.not_true, Bool.not_false, D.int.injEq, D.tup.injEq, D.lst.injEq, D.ref.injEq, D.bl.injEq, MO.lst.injEq, List.cons.injEq, reduceCtorEq, false_and, and_false, exists_const, and_assoc, exists_and_left, exists_eq_left, wLc, wiSeq, wipeR, id, wiEnum, wiZip, wiRng1, wiRng2, wgTup, lenOk, wgCons, wgNil, wFor, wLstRg1, z_in_lst, z_in_tup, flat_int, flat_ints, inD_ints, wRev, wDic0, wExtend,  z_ix_0, z_ixt_0, z_ix_1, z_ixt_1, z_ix_2, z_ixt_2, z_ix_3, z_ixt_3, z_ix_4, z_ixt_4, z_ix_5, z_ixt_5, z_ix_6, z_ixt_6, z_ix_7, z_ixt_7, z_ix_8, z_ixt_8, z_add_int, z_add_tup, z_add_lst, z_add_str, z_mul_int, z_mul_tup, z_mul_lst, z_ib_int, z_ii_int, z_neg_int, z_len_lst, z_len_tup, z_len_str, z_abs_int, z_int_int, z_cii_int, z_tuple_lst, z_tuple_tup, z_list_lst, z_list_tup, z_cut_lst, z_cut_tup, z_rev_lst, z_rev_tup, z_isN_, z_notN_, z_isB_, z_notB_, z_w1_, z_w2_, z_in_lst, z_in_tup, z_isK_int_int, z_isK_int_bl, z_isK_int_str, z_isK_int_tup, z_isK_int_lst, z_isK_int_dic, z_isK_int_non, z_isK_bool_int, z_isK_bool_bl, z_isK_bool_str, z_isK_bool_tup, z_isK_bool_lst, z_isK_bool_dic, z_isK_bool_non, z_isK_str_int, z_isK_str_bl, z_isK_str_str, z_isK_str_tup, z_isK_str_lst, z_isK_str_dic, z_isK_str_non, z_isK_tuple_int, z_isK_tuple_bl, z_isK_tuple_str, z_isK_tuple_tup, z_isK_tuple_lst, z_isK_tuple_dic, z_isK_tuple_non, z_isK_list_int, z_isK_list_bl, z_isK_list_str, z_isK_list_tup, z_isK_list_lst, z_isK_list_dic, z_isK_list_non, z_isK_dict_int, z_isK_dict_bl, z_isK_dict_str, z_isK_dict_tup, z_isK_dict_lst, z_isK_dict_dic, z_isK_dict_non, z_items_lst, z_items_tup]
      exact outK.same q
    case hs =>
      obtain ⟨rfl, z, s, rfl, h1, hsb⟩ := h
      obtain ⟨l, hl, rfl⟩ := map_int_get hd
      have hln : 0 ≤ l ∧ l < count := ho l (List.mem_of_getElem? hl)
      have e0 := take_succ_foldl (f := stepD rows) (z := some 0) hl
      rw [h1] at e0
      obtain ⟨gs, e1, e2, e3⟩ := screen_at hs hsb.1 hsb.2
      have hg : gs.getD l.toNat .non ∈ gs := getD_mem (by omega)
      have es : stepD rows (some s) l = (match gs.getD l.toNat .non with | .int j => some j | _ => none) := by
        simp only [stepD, e1] <;> rfl
      simp only [wSeq, wNext, wIfS, wAsg, wRet, wRetN, wDrop, wOp, wUn, wgSub, wBM, z_tyd_lst,  wCB, wCons, wNil, wVar, wVarF, wC, wgName, wTe, wAnd, wOr, DL.wNot, wAndV, wOrV, wNotV, wIf, wCh, wEq, wNe, wIsi, wIsi2, wCall, wNever, wTup, wLst, wSl, wNoPart, wPart, wYes, endD, startR, newL_f, newL_t, List.map, List.length, List.length_cons, List.length_nil, List.getElem?_cons_zero, List.getElem?_cons_succ, List.set_cons_zero, List.set_cons_succ, List.cons_append, List.nil_append, List.append_nil, List.replicate, Nat.reduceSub, Nat.reduceAdd, Option.some.injEq, ex_some_iff, ex_bl_iff, ex_int_iff, ex_tup_iff, exists_eq_left', true_and, and_true, rd_non, rd_bl, rd_int, rd_str, rd_tup, rd_lst, pl_int, pl_bl, pl_non, pl_tup, pl_lst, pl_str, isNon_int, isNon_bl, isNon_non, isNon_tup, isNon_str, isNon_ref, isNon_lst, okD_int, okD_bl, okD_non, eqD_int, eqD_bl, eqD_non, Bool.false_eq_true, if_true, if_false, ite_true, ite_false, Bool.not_true, Bool.not_false, D.int.injEq, D.tup.injEq, D.lst.injEq, D.ref.injEq, D.bl.injEq, MO.lst.injEq, List.cons.injEq, reduceCtorEq, false_and, and_false, exists_const, and_assoc, exists_and_left, exists_eq_left, wLc, wiSeq, wipeR, id, wiEnum, wiZip, wiRng1, wiRng2, wgTup, lenOk, wgCons, wgNil, wFor, wLstRg1, z_in_lst, z_in_tup, flat_int, flat_ints, inD_ints, wRev, wDic0, wExtend,  z_ix_0, z_ixt_0, z_ix_1, z_ixt_1, z_ix_2, z_ixt_2, z_ix_3, z_ixt_3, z_ix_4, z_ixt_4, z_ix_5, z_ixt_5, z_ix_6, z_ixt_6, z_ix_7, z_ixt_7, z_ix_8, z_ixt_8, z_add_int, z_add_tup, z_add_lst, z_add_str, z_mul_int, z_mul_tup, z_mul_lst, z_ib_int, z_ii_int, z_neg_int, z_len_lst, z_len_tup, z_len_str, z_abs_int, z_int_int, z_cii_int, z_tuple_lst, z_tuple_tup, z_list_lst, z_list_tup, z_cut_lst, z_cut_tup, z_rev_lst, z_rev_tup, z_isN_, z_notN_, z_isB_, z_notB_, z_w1_, z_w2_, z_in_lst, z_in_tup, z_isK_int_int, z_isK_int_bl, z_isK_int_str, z_isK_int_tup, z_isK_int_lst, z_isK_int_dic, z_isK_int_non, z_isK_bool_int, z_isK_bool_bl, z_isK_bool_str, z_isK_bool_tup, z_isK_bool_lst, z_isK_bool_dic, z_isK_bool_non, z_isK_str_int, z_isK_str_bl, z_isK_str_str, z_isK_str_tup, z_isK_str_lst, z_isK_str_dic, z_isK_str_non, z_isK_tuple_int, z_isK_tuple_bl, z_isK_tuple_str, z_isK_tuple_tup, z_isK_tuple_lst, z_isK_tuple_dic, z_isK_tuple_non, z_isK_list_int, z_isK_list_bl, z_isK_list_str, z_isK_list_tup, z_isK_list_lst, z_isK_list_dic, z_isK_list_non, z_isK_dict_int, z_isK_dict_bl, z_isK_dict_str, z_isK_dict_tup, z_isK_dict_lst, z_isK_dict_dic, z_isK_dict_non, z_items_lst, z_items_tup, z_ixt_lt hsb.1 hsb.2, e1, z_ixt_lt hln.1 (show l < gs.length by omega)]
      rcases e3 _ hg with h | ⟨j, h, h2, h3⟩
      · rw [h] at es ⊢
        rw [es] at e0
        simp only [wSeq, wNext, wIfS, wAsg, wRet, wRetN, wDrop, wOp, wUn, wgSub, wBM, z_tyd_lst,  wCB, wCons, wNil, wVar, wVarF, wC, wgName, wTe, wAnd, wOr, DL.wNot, wAndV, wOrV, wNotV, wIf, wCh, wEq, wNe, wIsi, wIsi2, wCall, wNever, wTup, wLst, wSl, wNoPart, wPart, wYes, endD, startR, newL_f, newL_t, List.map, List.length, List.length_cons, List.length_nil, List.getElem?_cons_zero, List.getElem?_cons_succ, List.set_cons_zero, List.set_cons_succ, List.cons_append, List.nil_append, List.append_nil, List.replicate, Nat.reduceSub, Nat.reduceAdd, Option.some.injEq, ex_some_iff, ex_bl_iff, ex_int_iff, ex_tup_iff, exists_eq_left', true_and, and_true, rd_non, rd_bl, rd_int, rd_str, rd_tup, rd_lst, pl_int, pl_bl, pl_non, pl_tup, pl_lst, pl_str, isNon_int, isNon_bl, isNon_non, isNon_tup, isNon_str, isNon_ref, isNon_lst, okD_int, okD_bl, okD_non, eqD_int, eqD_bl, eqD_non, Bool.false_eq_true, if_true, if_false, ite_true, ite_false, Bool.not_true, Bool.not_false, D.int.injEq, D.tup.injEq, D.lst.injEq, D.ref.injEq, D.bl.injEq, MO.lst.injEq, List.cons.injEq, reduceCtorEq, false_and, and_false, exists_const, and_assoc, exists_and_left, exists_eq_left, wLc, wiSeq, wipeR, id, wiEnum, wiZip, wiRng1, wiRng2, wgTup, lenOk, wgCons, wgNil, wFor, wLstRg1, z_in_lst, z_in_tup, flat_int, flat_ints, inD_ints, wRev, wDic0, wExtend,  z_ix_0, z_ixt_0, z_ix_1, z_ixt_1, z_ix_2, z_ixt_2, z_ix_3, z_ixt_3, z_ix_4, z_ixt_4, z_ix_5, z_ixt_5, z_ix_6, z_ixt_6, z_ix_7, z_ixt_7, z_ix_8, z_ixt_8, z_add_int, z_add_tup, z_add_lst, z_add_str, z_mul_int, z_mul_tup, z_mul_lst, z_ib_int, z_ii_int, z_neg_int, z_len_lst, z_len_tup, z_len_str, z_abs_int, z_int_int, z_cii_int, z_tuple_lst, z_tuple_tup, z_list_lst, z_list_tup, z_cut_lst, z_cut_tup, z_rev_lst, z_rev_tup, z_isN_, z_notN_, z_isB_, z_notB_, z_w1_, z_w2_, z_in_lst, z_in_tup, z_isK_int_int, z_isK_int_bl, z_isK_int_str, z_isK_int_tup, z_isK_int_lst, z_isK_int_dic, z_isK_int_non, z_isK_bool_int, z_isK_bool_bl, z_isK_bool_str, z_isK_bool_tup, z_isK_bool_lst, z_isK_bool_dic, z_isK_bool_non, z_isK_str_int, z_isK_str_bl, z_isK_str_str, z_isK_str_tup, z_isK_str_lst, z_isK_str_dic, z_isK_str_non, z_isK_tuple_int, z_isK_tuple_bl, z_isK_tuple_str, z_isK_tuple_tup, z_isK_tuple_lst, z_isK_tuple_dic, z_isK_tuple_non, z_isK_list_int, z_isK_list_bl, z_isK_list_str, z_isK_list_tup, z_isK_list_lst, z_isK_list_dic, z_isK_list_non, z_isK_dict_int, z_isK_dict_bl, z_isK_dict_str, z_isK_dict_tup, z_isK_dict_lst, z_isK_dict_dic, z_isK_dict_non, z_items_lst, z_items_tup]
        have : passD rows order = false := by
          have hi : i < order.length := (List.getElem?_eq_some_iff.mp hl).1
          have e5 : order.foldl (stepD rows) (some 0) = none := by
            rw [← List.take_append_drop (i + 1) order, List.foldl_append, e0]
            exact foldl_none _
          simp only [passD, e5]
        rw [this] at q
        exact outK.same q
      · rw [h] at es ⊢
        rw [es] at e0
        simp only [wSeq, wNext, wIfS, wAsg, wRet, wRetN, wDrop, wOp, wUn, wgSub, wBM, z_tyd_lst,  wCB, wCons, wNil, wVar, wVarF, wC, wgName, wTe, wAnd, wOr, DL.wNot, wAndV, wOrV, wNotV, wIf, wCh, wEq, wNe, wIsi, wIsi2, wCall, wNever, wTup, wLst, wSl, wNoPart, wPart, wYes, endD, startR, newL_f, newL_t, List.map, List.length, List.length_cons, List.length_nil, List.getElem?_cons_zero, List.getElem?_cons_succ, List.set_cons_zero, List.set_cons_succ, List.cons_append, List.nil_append, List.append_nil, List.replicate, Nat.reduceSub, Nat.reduceAdd, Option.some.injEq, ex_some_iff, ex_bl_iff, ex_int_iff, ex_tup_iff, exists_eq_left', true_and, and_true, rd_non, rd_bl, rd_int, rd_str, rd_tup, rd_lst, pl_int, pl_bl, pl_non, pl_tup, pl_lst, pl_str, isNon_int, isNon_bl, isNon_non, isNon_tup, isNon_str, isNon_ref, isNon_lst, okD_int, okD_bl, okD_non, eqD_int, eqD_bl, eqD_non, Bool.false_eq_true, if_true, if_false, ite_true, ite_false, Bool.not_true, Bool.not_false, D.int.injEq, D.tup.injEq, D.lst.injEq, D.ref.injEq, D.bl.injEq, MO.lst.injEq, List.cons.injEq, reduceCtorEq, false_and, and_false, exists_const, and_assoc, exists_and_left, exists_eq_left, wLc, wiSeq, wipeR, id, wiEnum, wiZip, wiRng1, wiRng2, wgTup, lenOk, wgCons, wgNil, wFor, wLstRg1, z_in_lst, z_in_tup, flat_int, flat_ints, inD_ints, wRev, wDic0, wExtend,  z_ix_0, z_ixt_0, z_ix_1, z_ixt_1, z_ix_2, z_ixt_2, z_ix_3, z_ixt_3, z_ix_4, z_ixt_4, z_ix_5, z_ixt_5, z_ix_6, z_ixt_6, z_ix_7, z_ixt_7, z_ix_8, z_ixt_8, z_add_int, z_add_tup, z_add_lst, z_add_str, z_mul_int, z_mul_tup, z_mul_lst, z_ib_int, z_ii_int, z_neg_int, z_len_lst, z_len_tup, z_len_str, z_abs_int, z_int_int, z_cii_int, z_tuple_lst, z_tuple_tup, z_list_lst, z_list_tup, z_cut_lst, z_cut_tup, z_rev_lst, z_rev_tup, z_isN_, z_notN_, z_isB_, z_notB_, z_w1_, z_w2_, z_in_lst, z_in_tup, z_isK_int_int, z_isK_int_bl, z_isK_int_str, z_isK_int_tup, z_isK_int_lst, z_isK_int_dic, z_isK_int_non, z_isK_bool_int, z_isK_bool_bl, z_isK_bool_str, z_isK_bool_tup, z_isK_bool_lst, z_isK_bool_dic, z_isK_bool_non, z_isK_str_int, z_isK_str_bl, z_isK_str_str, z_isK_str_tup, z_isK_str_lst, z_isK_str_dic, z_isK_str_non, z_isK_tuple_int, z_isK_tuple_bl, z_isK_tuple_str, z_isK_tuple_tup, z_isK_tuple_lst, z_isK_tuple_dic, z_isK_tuple_non, z_isK_list_int, z_isK_list_bl, z_isK_list_str, z_isK_list_tup, z_isK_list_lst, z_isK_list_dic, z_isK_list_non, z_isK_dict_int, z_isK_dict_bl, z_isK_dict_str, z_isK_dict_tup, z_isK_dict_lst, z_isK_dict_dic, z_isK_dict_non, z_items_lst, z_items_tup]
        exact hN _ _ ⟨rfl, _, j, rfl, e0, by omega, by omega⟩)
theorem D__law_passes (A : Al K mg) : Def P w K mg base CX0 1 "_law_passes" ["thing", "order"] sp__law_passes := by
  obtain ⟨f, fd, Fu, hm, hb⟩ := fu__law_passes A
  exact ⟨f, fd, O__law_passes A Fu, hm, Fu.kp, hb⟩
end
end W38
namespace W38
open PySem PySem.Spec PyProof.Rows L2 DL
theorem sc__law_orders : FnScope ["count", "found", "turn", "longer", "row", "layer"] ["count"] (defScope s__law_orders) := ⟨rfl, rfl, rfl, by decide +kernel, rfl, by decide +kernel, by decide +kernel⟩
theorem ar__law_orders : ∀ ds S Q E, sp__law_orders ds S Q E → ds.length = 1 := by
  rintro ds S Q E h
  simp only [sp__law_orders] at h
  obtain ⟨_, h⟩ := h
  repeat (first | (obtain ⟨rfl, _⟩ := h; rfl) | (obtain ⟨_, h⟩ := h))
section
variable {P : Program} {w : World} {K : PySem.W.Frag} {mg : Str → Option Value} {base : Heap}
theorem O__law_orders (A : Al K mg) {f : Addr} {fd : FuncData} (Fu : FunD K "_law_orders" "_law_orders" (defArgs s__law_orders) (defBody s__law_orders) (defScope s__law_orders) [] [] f fd) : FnOk P w K mg base CX0 1 f fd ["count"] (spD K sp__law_orders) := by
  refine fn_d Fu sc__law_orders ar__law_orders (fun cdv A0 outer s0 H0 E0' hr => ⟨_, _,
      (db_cons (ds_set 1 sc__law_orders.nd (de_lst false (da_cons (de_tup da_nil) da_nil)))
      (db_cons (ds_for (vs := [2]) PassesOwn.never rfl (di_range1 rfl A.b_range (da_cons (de_var 0) da_nil)) (dg_name (vs := [2]) 2 (by decide) sc__law_orders.nd)
        (db_cons (ds_set 3 sc__law_orders.nd (de_lst true da_nil))
        (db_cons (ds_for (vs := [4]) PassesOwn.never rfl (di_seqK K (de_var 1)) (dg_name (vs := [4]) 4 (by decide) sc__law_orders.nd)
          (db_one (ds_expr (de_bmK K PySem.F.plainAttrs_list PySem.F.slot_list_extend PySem.F.type_list_extend mt_extR rm_extend (de_var 3) (da_cons (de_lc false [("layer", 5)] rfl sc__law_orders.nd (di_range1 rfl A.b_range (da_cons (de_var 0) da_nil)) (blkOk_by (by kernel_rfl)) (fun _ _ _ _ _ => (dg_name (vs := [5]) 5 (by decide) sc__law_orders.nd)) (fun _ _ _ _ _ => (dts_one (dt_cmp (op_notInK K) (ro_in true) (de_var 5) (de_var 4) (by rfl)))) (fun _ _ _ _ _ => (de_op (op_addK K) (ro_add false) (de_var 4) (de_tup (da_cons (de_var 5) da_nil))))) da_nil)))))
        (db_one (ds_set 1 sc__law_orders.nd (de_varF 3))))))
      (db_one (ds_ret (de_var 1))))),
      ?_⟩)
  all_goals (
    rintro ds S Q Ed ⟨n, rfl, hn, q⟩
    simp only [wSeq, wNext, wIfS, wAsg, wRet, wRetN, wDrop, wOp, wUn, wgSub, wBM, z_tyd_lst,  wCB, wCons, wNil, wVar, wVarF, wC, wgName, wTe, wAnd, wOr, DL.wNot, wAndV, wOrV, wNotV, wIf, wCh, wEq, wNe, wIsi, wIsi2, wCall, wNever, wTup, wLst, wSl, wNoPart, wPart, wYes, endD, startR, newL_f, newL_t, List.map, List.length, List.length_cons, List.length_nil, List.getElem?_cons_zero, List.getElem?_cons_succ, List.set_cons_zero, List.set_cons_succ, List.cons_append, List.nil_append, List.append_nil, List.replicate, Nat.reduceSub, Nat.reduceAdd, Option.some.injEq, ex_some_iff, ex_bl_iff, ex_int_iff, ex_tup_iff, exists_eq_left', true_and, and_true, rd_non, rd_bl, rd_int, rd_str, rd_tup, rd_lst, pl_int, pl_bl, pl_non, pl_tup, pl_lst, pl_str, isNon_int, isNon_bl, isNon_non, isNon_tup, isNon_str, isNon_ref, isNon_lst, okD_int, okD_bl, okD_non, eqD_int, eqD_bl, eqD_non, Bool.false_eq_true, if_true, if_false, ite_true, ite_false, Bool.not_true, Bool.not_false, D.int.injEq, D.tup.injEq, D.lst.injEq, D.ref.injEq, D.bl.injEq, MO.lst.injEq, List.cons.injEq, reduceCtorEq, false_and, and_false, exists_const, and_assoc, exists_and_left, exists_eq_left, wLc, wiSeq, wipeR, id, wiEnum, wiZip, wiRng1, wiRng2, wgTup, lenOk, wgCons, wgNil, wFor, wLstRg1, z_in_lst, z_in_tup, flat_int, flat_ints, inD_ints, wRev, wDic0, wExtend,  z_ix_0, z_ixt_0, z_ix_1, z_ixt_1, z_ix_2, z_ixt_2, z_ix_3, z_ixt_3, z_ix_4, z_ixt_4, z_ix_5, z_ixt_5, z_ix_6, z_ixt_6, z_ix_7, z_ixt_7, z_ix_8, z_ixt_8, z_add_int, z_add_tup, z_add_lst, z_add_str, z_mul_int, z_mul_tup, z_mul_lst, z_ib_int, z_ii_int, z_neg_int, z_len_lst, z_len_tup, z_len_str, z_abs_int, z_int_int, z_cii_int, z_tuple_lst, z_tuple_tup, z_list_lst, z_list_tup, z_cut_lst, z_cut_tup, z_rev_lst, z_rev_tup, z_isN_, z_notN_, z_isB_, z_notB_, z_w1_, z_w2_, z_in_lst, z_in_tup, z_isK_int_int, z_isK_int_bl, z_isK_int_str, z_isK_int_tup, z_isK_int_lst, z_isK_int_dic, z_isK_int_non, z_isK_bool_int, z_isK_bool_bl, z_isK_bool_str, z_isK_bool_tup, z_isK_bool_lst, z_isK_bool_dic, z_isK_bool_non, z_isK_str_int, z_isK_str_bl, z_isK_str_str, z_isK_str_tup, z_isK_str_lst, z_isK_str_dic, z_isK_str_non, z_isK_tuple_int, z_isK_tuple_bl, z_isK_tuple_str, z_isK_tuple_tup, z_isK_tuple_lst, z_isK_tuple_dic, z_isK_tuple_non, z_isK_list_int, z_isK_list_bl, z_isK_list_str, z_isK_list_tup, z_isK_list_lst, z_isK_list_dic, z_isK_list_non, z_isK_dict_int, z_isK_dict_bl, z_isK_dict_str, z_isK_dict_tup, z_isK_dict_lst, z_isK_dict_dic, z_isK_dict_non, z_items_lst, z_items_tup]
    refine ⟨Nat.zero_le _, le_sz (by decide), by omega, by omega, ?_⟩
    refine forW_n (fun i ρ S' => S' = S ∧ i ≤ n.toNat ∧ ∃ found x2 x3 x4 x5, ρ = [some (D.int n), some (D.lst found), x2, x3, x4, x5] ∧ found.length ≤ 5 ^ i ∧ ∀ x ∈ found, ∃ is : List Int, x = .tup (is.map D.int) ∧ is.length = i ∧ is.Nodup ∧ ∀ l ∈ is, 0 ≤ l ∧ l < n) (fun _ _ _ _ => trivial) (fun i d ρ S' hd h N hN => ?hs) (fun ρ S' h => ?hd) ⟨rfl, Nat.zero_le _, [.tup []], none, none, none, none, rfl, by decide, fun x hx => ⟨[], by simpa using hx, rfl, List.nodup_nil, fun l hl => nomatch hl⟩⟩
    case hd =>
      obtain ⟨rfl, hi, found, x2, x3, x4, x5, rfl, hf, ha⟩ := h
      rw [rangeD_length] at ha
      simp only [wSeq, wNext, wIfS, wAsg, wRet, wRetN, wDrop, wOp, wUn, wgSub, wBM, z_tyd_lst,  wCB, wCons, wNil, wVar, wVarF, wC, wgName, wTe, wAnd, wOr, DL.wNot, wAndV, wOrV, wNotV, wIf, wCh, wEq, wNe, wIsi, wIsi2, wCall, wNever, wTup, wLst, wSl, wNoPart, wPart, wYes, endD, startR, newL_f, newL_t, List.map, List.length, List.length_cons, List.length_nil, List.getElem?_cons_zero, List.getElem?_cons_succ, List.set_cons_zero, List.set_cons_succ, List.cons_append, List.nil_append, List.append_nil, List.replicate, Nat.reduceSub, Nat.reduceAdd, Option.some.injEq, ex_some_iff, ex_bl_iff, ex_int_iff, ex_tup_iff, exists_eq_left', true_and, and_true, rd_non, rd_bl, rd_int, rd_str, rd_tup, rd_lst, pl_int, pl_bl, pl_non, pl_tup, pl_lst, pl_str, isNon_int, isNon_bl, isNon_non, isNon_tup, isNon_str, isNon_ref, isNon_lst, okD_int, okD_bl, okD_non, eqD_int, eqD_bl, eqD_non, Bool.false_eq_true, if_true, if_false, ite_true, ite_false, Bool.not_true, Bool.not_false, D.int.injEq, D.tup.injEq, D.lst.injEq, D.ref.injEq, D.bl.injEq, MO.lst.injEq, List.cons.injEq, reduceCtorEq, false_and, and_false, exists_const, and_assoc, exists_and_left, exists_eq_left, wLc, wiSeq, wipeR, id, wiEnum, wiZip, wiRng1, wiRng2, wgTup, lenOk, wgCons, wgNil, wFor, wLstRg1, z_in_lst, z_in_tup, flat_int, flat_ints, inD_ints, wRev, wDic0, wExtend,  z_ix_0, z_ixt_0, z_ix_1, z_ixt_1, z_ix_2, z_ixt_2, z_ix_3, z_ixt_3, z_ix_4, z_ixt_4, z_ix_5, z_ixt_5, z_ix_6, z_ixt_6, z_ix_7, z_ixt_7, z_ix_8, z_ixt_8, z_add_int, z_add_tup, z_add_lst, z_add_str, z_mul_int, z_mul_tup, z_mul_lst, z_ib_int, z_ii_int, z_neg_int, z_len_lst, z_len_tup, z_len_str, z_abs_int, z_int_int, z_cii_int, z_tuple_lst, z_tuple_tup, z_list_lst, z_list_tup, z_cut_lst, z_cut_tup, z_rev_lst, z_rev_tup, z_isN_, z_notN_, z_isB_, z_notB_, z_w1_, z_w2_, z_in_lst, z_in_tup, z_isK_int_int, z_isK_int_bl, z_isK_int_str, z_isK_int_tup, z_isK_int_lst, z_isK_int_dic, z_isK_int_non, z_isK_bool_int, z_isK_bool_bl, z_isK_bool_str, z_isK_bool_tup, z_isK_bool_lst, z_isK_bool_dic, z_isK_bool_non, z_isK_str_int, z_isK_str_bl, z_isK_str_str, z_isK_str_tup, z_isK_str_lst, z_isK_str_dic, z_isK_str_non, z_isK_tuple_int, z_isK_tuple_bl, z_isK_tuple_str, z_isK_tuple_tup, z_isK_tuple_lst, z_isK_tuple_dic, z_isK_tuple_non, z_isK_list_int, z_isK_list_bl, z_isK_list_str, z_isK_list_tup, z_isK_list_lst, z_isK_list_dic, z_isK_list_non, z_isK_dict_int, z_isK_dict_bl, z_isK_dict_str, z_isK_dict_tup, z_isK_dict_lst, z_isK_dict_dic, z_isK_dict_non, z_items_lst, z_items_tup]
      refine outK.same (q found fun x hx => ?_)
      obtain ⟨is, rfl, h1, h2, h3⟩ := ha x hx
      exact ⟨is, rfl, perm_of_nodup h2 (fun l hl => by have := h3 l hl; omega) h1⟩
    case hs =>
      obtain ⟨rfl, hi, found, x2, x3, x4, x5, rfl, hf, ha⟩ := h
      have hi : i < n.toNat := by
        have := (List.getElem?_eq_some_iff.mp hd).1
        rw [rangeD_length] at this
        exact this
      have hpow : found.length ≤ 625 := Nat.le_trans hf (Nat.pow_le_pow_right (i := i) (j := 4) (n := 5) (by decide) (by omega))
      simp only [wSeq, wNext, wIfS, wAsg, wRet, wRetN, wDrop, wOp, wUn, wgSub, wBM, z_tyd_lst,  wCB, wCons, wNil, wVar, wVarF, wC, wgName, wTe, wAnd, wOr, DL.wNot, wAndV, wOrV, wNotV, wIf, wCh, wEq, wNe, wIsi, wIsi2, wCall, wNever, wTup, wLst, wSl, wNoPart, wPart, wYes, endD, startR, newL_f, newL_t, List.map, List.length, List.length_cons, List.length_nil, List.getElem?_cons_zero, List.getElem?_cons_succ, List.set_cons_zero, List.set_cons_succ, List.cons_append, List.nil_append, List.append_nil, List.replicate, Nat.reduceSub, Nat.reduceAdd, Option.some.injEq, ex_some_iff, ex_bl_iff, ex_int_iff, ex_tup_iff, exists_eq_left', true_and, and_true, rd_non, rd_bl, rd_int, rd_str, rd_tup, rd_lst, pl_int, pl_bl, pl_non, pl_tup, pl_lst, pl_str, isNon_int, isNon_bl, isNon_non, isNon_tup, isNon_str, isNon_ref, isNon_lst, okD_int, okD_bl, okD_non, eqD_int, eqD_bl, eqD_non, Bool.false_eq_true, if_true, if_false, ite_true, ite_false, Bool.not_true, Bool.not_false, D.int.injEq, D.tup.injEq, D.lst.injEq, D.ref.injEq, D.bl.injEq, MO.lst.injEq, List.cons.injEq, reduceCtorEq, false_and, and_false, exists_const, and_assoc, exists_and_left, exists_eq_left, wLc, wiSeq, wipeR, id, wiEnum, wiZip, wiRng1, wiRng2, wgTup, lenOk, wgCons, wgNil, wFor, wLstRg1, z_in_lst, z_in_tup, flat_int, flat_ints, inD_ints, wRev, wDic0, wExtend,  z_ix_0, z_ixt_0, z_ix_1, z_ixt_1, z_ix_2, z_ixt_2, z_ix_3, z_ixt_3, z_ix_4, z_ixt_4, z_ix_5, z_ixt_5, z_ix_6, z_ixt_6, z_ix_7, z_ixt_7, z_ix_8, z_ixt_8, z_add_int, z_add_tup, z_add_lst, z_add_str, z_mul_int, z_mul_tup, z_mul_lst, z_ib_int, z_ii_int, z_neg_int, z_len_lst, z_len_tup, z_len_str, z_abs_int, z_int_int, z_cii_int, z_tuple_lst, z_tuple_tup, z_list_lst, z_list_tup, z_cut_lst, z_cut_tup, z_rev_lst, z_rev_tup, z_isN_, z_notN_, z_isB_, z_notB_, z_w1_, z_w2_, z_in_lst, z_in_tup, z_isK_int_int, z_isK_int_bl, z_isK_int_str, z_isK_int_tup, z_isK_int_lst, z_isK_int_dic, z_isK_int_non, z_isK_bool_int, z_isK_bool_bl, z_isK_bool_str, z_isK_bool_tup, z_isK_bool_lst, z_isK_bool_dic, z_isK_bool_non, z_isK_str_int, z_isK_str_bl, z_isK_str_str, z_isK_str_tup, z_isK_str_lst, z_isK_str_dic, z_isK_str_non, z_isK_tuple_int, z_isK_tuple_bl, z_isK_tuple_str, z_isK_tuple_tup, z_isK_tuple_lst, z_isK_tuple_dic, z_isK_tuple_non, z_isK_list_int, z_isK_list_bl, z_isK_list_str, z_isK_list_tup, z_isK_list_lst, z_isK_list_dic, z_isK_list_non, z_isK_dict_int, z_isK_dict_bl, z_isK_dict_str, z_isK_dict_tup, z_isK_dict_lst, z_isK_dict_dic, z_isK_dict_non, z_items_lst, z_items_tup]
      refine ⟨Nat.zero_le _, fun a ha0 => ?_⟩
      refine forW_n (fun j ρ S2 => ∃ longer x4 x5, ρ = [some (D.int n), some (D.lst found), some d, some (.ref a), x4, x5] ∧ S2 = S'.set a (.lst longer) ∧ longer.length ≤ 5 * j ∧ ∀ x ∈ longer, ∃ is : List Int, x = .tup (is.map D.int) ∧ is.length = i + 1 ∧ is.Nodup ∧ ∀ l ∈ is, 0 ≤ l ∧ l < n) (fun _ _ _ _ => trivial) (fun j e ρ S2 he h2 N2 hN2 => ?hs) (fun ρ S2 h2 => ?hd) ⟨[], x4, x5, rfl, rfl, Nat.zero_le _, fun x hx => nomatch hx⟩
      case hd =>
        obtain ⟨longer, x4, x5, rfl, rfl, hlg, hal⟩ := h2
        simp only [wSeq, wNext, wIfS, wAsg, wRet, wRetN, wDrop, wOp, wUn, wgSub, wBM, z_tyd_lst,  wCB, wCons, wNil, wVar, wVarF, wC, wgName, wTe, wAnd, wOr, DL.wNot, wAndV, wOrV, wNotV, wIf, wCh, wEq, wNe, wIsi, wIsi2, wCall, wNever, wTup, wLst, wSl, wNoPart, wPart, wYes, endD, startR, newL_f, newL_t, List.map, List.length, List.length_cons, List.length_nil, List.getElem?_cons_zero, List.getElem?_cons_succ, List.set_cons_zero, List.set_cons_succ, List.cons_append, List.nil_append, List.append_nil, List.replicate, Nat.reduceSub, Nat.reduceAdd, Option.some.injEq, ex_some_iff, ex_bl_iff, ex_int_iff, ex_tup_iff, exists_eq_left', true_and, and_true, rd_non, rd_bl, rd_int, rd_str, rd_tup, rd_lst, pl_int, pl_bl, pl_non, pl_tup, pl_lst, pl_str, isNon_int, isNon_bl, isNon_non, isNon_tup, isNon_str, isNon_ref, isNon_lst, okD_int, okD_bl, okD_non, eqD_int, eqD_bl, eqD_non, Bool.false_eq_true, if_true, if_false, ite_true, ite_false, Bool.not_true, Bool.not_false, D.int.injEq, D.tup.injEq, D.lst.injEq, D.ref.injEq, D.bl.injEq, MO.lst.injEq, List.cons.injEq, reduceCtorEq, false_and, and_false, exists_const, and_assoc, exists_and_left, exists_eq_left, wLc, wiSeq, wipeR, id, wiEnum, wiZip, wiRng1, wiRng2, wgTup, lenOk, wgCons, wgNil, wFor, wLstRg1, z_in_lst, z_in_tup, flat_int, flat_ints, inD_ints, wRev, wDic0, wExtend,  z_ix_0, z_ixt_0, z_ix_1, z_ixt_1, z_ix_2, z_ixt_2, z_ix_3, z_ixt_3, z_ix_4, z_ixt_4, z_ix_5, z_ixt_5, z_ix_6, z_ixt_6, z_ix_7, z_ixt_7, z_ix_8, z_ixt_8, z_add_int, z_add_tup, z_add_lst, z_add_str, z_mul_int, z_mul_tup, z_mul_lst, z_ib_int, z_ii_int, z_neg_int, z_len_lst, z_len_tup, z_len_str, z_abs_int, z_int_int, z_cii_int, z_tuple_lst, z_tuple_tup, z_list_lst, z_list_tup, z_cut_lst, z_cut_tup, z_rev_lst, z_rev_tup, z_isN_, z_notN_, z_isB_, z_notB_, z_w1_, z_w2_, z_in_lst, z_in_tup, z_isK_int_int, z_isK_int_bl, z_isK_int_str, z_isK_int_tup, z_isK_int_lst, z_isK_int_dic, z_isK_int_non, z_isK_bool_int, z_isK_bool_bl, z_isK_bool_str, z_isK_bool_tup, z_isK_bool_lst, z_isK_bool_dic, z_isK_bool_non, z_isK_str_int, z_isK_str_bl, z_isK_str_str, z_isK_str_tup, z_isK_str_lst, z_isK_str_dic, z_isK_str_non, z_isK_tuple_int, z_isK_tuple_bl, z_isK_tuple_str, z_isK_tuple_tup, z_isK_tuple_lst, z_isK_tuple_dic, z_isK_tuple_non, z_isK_list_int, z_isK_list_bl, z_isK_list_str, z_isK_list_tup, z_isK_list_lst, z_isK_list_dic, z_isK_list_non, z_isK_dict_int, z_isK_dict_bl, z_isK_dict_str, z_isK_dict_tup, z_isK_dict_lst, z_isK_dict_dic, z_isK_dict_non, z_items_lst, z_items_tup, MS.set_same, MS.del_set ha0]
        refine hN _ _ ⟨rfl, by omega, longer, _, _, _, _, rfl, ?_, hal⟩
        rw [Nat.pow_succ]
        omega
      case hs =>
        obtain ⟨longer, x4, x5, rfl, rfl, hlg, hal⟩ := h2
        have hj : j < found.length := (List.getElem?_eq_some_iff.mp he).1
        obtain ⟨is, rfl, h1, h3, h4⟩ := ha e (List.mem_of_getElem? he)
        simp only [wSeq, wNext, wIfS, wAsg, wRet, wRetN, wDrop, wOp, wUn, wgSub, wBM, z_tyd_lst,  wCB, wCons, wNil, wVar, wVarF, wC, wgName, wTe, wAnd, wOr, DL.wNot, wAndV, wOrV, wNotV, wIf, wCh, wEq, wNe, wIsi, wIsi2, wCall, wNever, wTup, wLst, wSl, wNoPart, wPart, wYes, endD, startR, newL_f, newL_t, List.map, List.length, List.length_cons, List.length_nil, List.getElem?_cons_zero, List.getElem?_cons_succ, List.set_cons_zero, List.set_cons_succ, List.cons_append, List.nil_append, List.append_nil, List.replicate, Nat.reduceSub, Nat.reduceAdd, Option.some.injEq, ex_some_iff, ex_bl_iff, ex_int_iff, ex_tup_iff, exists_eq_left', true_and, and_true, rd_non, rd_bl, rd_int, rd_str, rd_tup, rd_lst, pl_int, pl_bl, pl_non, pl_tup, pl_lst, pl_str, isNon_int, isNon_bl, isNon_non, isNon_tup, isNon_str, isNon_ref, isNon_lst, okD_int, okD_bl, okD_non, eqD_int, eqD_bl, eqD_non, Bool.false_eq_true, if_true, if_false, ite_true, ite_false, Bool.not_true, Bool.not_false, D.int.injEq, D.tup.injEq, D.lst.injEq, D.ref.injEq, D.bl.injEq, MO.lst.injEq, List.cons.injEq, reduceCtorEq, false_and, and_false, exists_const, and_assoc, exists_and_left, exists_eq_left, wLc, wiSeq, wipeR, id, wiEnum, wiZip, wiRng1, wiRng2, wgTup, lenOk, wgCons, wgNil, wFor, wLstRg1, z_in_lst, z_in_tup, flat_int, flat_ints, inD_ints, wRev, wDic0, wExtend,  z_ix_0, z_ixt_0, z_ix_1, z_ixt_1, z_ix_2, z_ixt_2, z_ix_3, z_ixt_3, z_ix_4, z_ixt_4, z_ix_5, z_ixt_5, z_ix_6, z_ixt_6, z_ix_7, z_ixt_7, z_ix_8, z_ixt_8, z_add_int, z_add_tup, z_add_lst, z_add_str, z_mul_int, z_mul_tup, z_mul_lst, z_ib_int, z_ii_int, z_neg_int, z_len_lst, z_len_tup, z_len_str, z_abs_int, z_int_int, z_cii_int, z_tuple_lst, z_tuple_tup, z_list_lst, z_list_tup, z_cut_lst, z_cut_tup, z_rev_lst, z_rev_tup, z_isN_, z_notN_, z_isB_, z_notB_, z_w1_, z_w2_, z_in_lst, z_in_tup, z_isK_int_int, z_isK_int_bl, z_isK_int_str, z_isK_int_tup, z_isK_int_lst, z_isK_int_dic, z_isK_int_non, z_isK_bool_int, z_isK_bool_bl, z_isK_bool_str, z_isK_bool_tup, z_isK_bool_lst, z_isK_bool_dic, z_isK_bool_non, z_isK_str_int, z_isK_str_bl, z_isK_str_str, z_isK_str_tup, z_isK_str_lst, z_isK_str_dic, z_isK_str_non, z_isK_tuple_int, z_isK_tuple_bl, z_isK_tuple_str, z_isK_tuple_tup, z_isK_tuple_lst, z_isK_tuple_dic, z_isK_tuple_non, z_isK_list_int, z_isK_list_bl, z_isK_list_str, z_isK_list_tup, z_isK_list_lst, z_isK_list_dic, z_isK_list_non, z_isK_dict_int, z_isK_dict_bl, z_isK_dict_str, z_isK_dict_tup, z_isK_dict_lst, z_isK_dict_dic, z_isK_dict_non, z_items_lst, z_items_tup, z_rd_set]
        refine ⟨by omega, by omega, ?_⟩
        refine compL_filter (fun d => match d with | .int l => .tup ((is ++ [l]).map D.int) | _ => .non) (fun d => match d with | .int l => !decide (l ∈ is) | _ => false) noG_any (le_sz (by rw [rangeD_length]; omega)) (fun d hd S3 sub N3 M3 hN3 hM3 => ?_) ?_
        · obtain ⟨k, hk, rfl⟩ := rangeD_mem hd
          simp only [wSeq, wNext, wIfS, wAsg, wRet, wRetN, wDrop, wOp, wUn, wgSub, wBM, z_tyd_lst,  wCB, wCons, wNil, wVar, wVarF, wC, wgName, wTe, wAnd, wOr, DL.wNot, wAndV, wOrV, wNotV, wIf, wCh, wEq, wNe, wIsi, wIsi2, wCall, wNever, wTup, wLst, wSl, wNoPart, wPart, wYes, endD, startR, newL_f, newL_t, List.map, List.length, List.length_cons, List.length_nil, List.getElem?_cons_zero, List.getElem?_cons_succ, List.set_cons_zero, List.set_cons_succ, List.cons_append, List.nil_append, List.append_nil, List.replicate, Nat.reduceSub, Nat.reduceAdd, Option.some.injEq, ex_some_iff, ex_bl_iff, ex_int_iff, ex_tup_iff, exists_eq_left', true_and, and_true, rd_non, rd_bl, rd_int, rd_str, rd_tup, rd_lst, pl_int, pl_bl, pl_non, pl_tup, pl_lst, pl_str, isNon_int, isNon_bl, isNon_non, isNon_tup, isNon_str, isNon_ref, isNon_lst, okD_int, okD_bl, okD_non, eqD_int, eqD_bl, eqD_non, Bool.false_eq_true, if_true, if_false, ite_true, ite_false, Bool.not_true, Bool.not_false, D.int.injEq, D.tup.injEq, D.lst.injEq, D.ref.injEq, D.bl.injEq, MO.lst.injEq, List.cons.injEq, reduceCtorEq, false_and, and_false, exists_const, and_assoc, exists_and_left, exists_eq_left, wLc, wiSeq, wipeR, id, wiEnum, wiZip, wiRng1, wiRng2, wgTup, lenOk, wgCons, wgNil, wFor, wLstRg1, z_in_lst, z_in_tup, flat_int, flat_ints, inD_ints, wRev, wDic0, wExtend,  z_ix_0, z_ixt_0, z_ix_1, z_ixt_1, z_ix_2, z_ixt_2, z_ix_3, z_ixt_3, z_ix_4, z_ixt_4, z_ix_5, z_ixt_5, z_ix_6, z_ixt_6, z_ix_7, z_ixt_7, z_ix_8, z_ixt_8, z_add_int, z_add_tup, z_add_lst, z_add_str, z_mul_int, z_mul_tup, z_mul_lst, z_ib_int, z_ii_int, z_neg_int, z_len_lst, z_len_tup, z_len_str, z_abs_int, z_int_int, z_cii_int, z_tuple_lst, z_tuple_tup, z_list_lst, z_list_tup, z_cut_lst, z_cut_tup, z_rev_lst, z_rev_tup, z_isN_, z_notN_, z_isB_, z_notB_, z_w1_, z_w2_, z_in_lst, z_in_tup, z_isK_int_int, z_isK_int_bl, z_isK_int_str, z_isK_int_tup, z_isK_int_lst, z_isK_int_dic, z_isK_int_non, z_isK_bool_int, z_isK_bool_bl, z_isK_bool_str, z_isK_bool_tup, z_isK_bool_lst, z_isK_bool_dic, z_isK_bool_non, z_isK_str_int, z_isK_str_bl, z_isK_str_str, z_isK_str_tup, z_isK_str_lst, z_isK_str_dic, z_isK_str_non, z_isK_tuple_int, z_isK_tuple_bl, z_isK_tuple_str, z_isK_tuple_tup, z_isK_tuple_lst, z_isK_tuple_dic, z_isK_tuple_non, z_isK_list_int, z_isK_list_bl, z_isK_list_str, z_isK_list_tup, z_isK_list_lst, z_isK_list_dic, z_isK_list_non, z_isK_dict_int, z_isK_dict_bl, z_isK_dict_str, z_isK_dict_tup, z_isK_dict_lst, z_isK_dict_dic, z_isK_dict_non, z_items_lst, z_items_tup]
          refine ite_bl (fun h => ?_) (fun h => ?_)
          · refine ⟨le_sz (by decide), le_sz (by rw [List.length_map]; omega), ?_⟩
            have : N3 (.tup ((is ++ [0 + (k : Int)]).map D.int)) S3 := hN3 h
            rw [List.map_append] at this
            exact this
          · exact hM3 h
        · simp only [wSeq, wNext, wIfS, wAsg, wRet, wRetN, wDrop, wOp, wUn, wgSub, wBM, z_tyd_lst,  wCB, wCons, wNil, wVar, wVarF, wC, wgName, wTe, wAnd, wOr, DL.wNot, wAndV, wOrV, wNotV, wIf, wCh, wEq, wNe, wIsi, wIsi2, wCall, wNever, wTup, wLst, wSl, wNoPart, wPart, wYes, endD, startR, newL_f, newL_t, List.map, List.length, List.length_cons, List.length_nil, List.getElem?_cons_zero, List.getElem?_cons_succ, List.set_cons_zero, List.set_cons_succ, List.cons_append, List.nil_append, List.append_nil, List.replicate, Nat.reduceSub, Nat.reduceAdd, Option.some.injEq, ex_some_iff, ex_bl_iff, ex_int_iff, ex_tup_iff, exists_eq_left', true_and, and_true, rd_non, rd_bl, rd_int, rd_str, rd_tup, rd_lst, pl_int, pl_bl, pl_non, pl_tup, pl_lst, pl_str, isNon_int, isNon_bl, isNon_non, isNon_tup, isNon_str, isNon_ref, isNon_lst, okD_int, okD_bl, okD_non, eqD_int, eqD_bl, eqD_non, Bool.false_eq_true, if_true, if_false, ite_true, ite_false, Bool.not_true, Bool.not_false, D.int.injEq, D.tup.injEq, D.lst.injEq, D.ref.injEq, D.bl.injEq, MO.lst.injEq, List.cons.injEq, reduceCtorEq, false_and, and_false, exists_const, and_assoc, exists_and_left, exists_eq_left, wLc, wiSeq, wipeR, id, wiEnum, wiZip, wiRng1, wiRng2, wgTup, lenOk, wgCons, wgNil, wFor, wLstRg1, z_in_lst, z_in_tup, flat_int, flat_ints, inD_ints, wRev, wDic0, wExtend,  z_ix_0, z_ixt_0, z_ix_1, z_ixt_1, z_ix_2, z_ixt_2, z_ix_3, z_ixt_3, z_ix_4, z_ixt_4, z_ix_5, z_ixt_5, z_ix_6, z_ixt_6, z_ix_7, z_ixt_7, z_ix_8, z_ixt_8, z_add_int, z_add_tup, z_add_lst, z_add_str, z_mul_int, z_mul_tup, z_mul_lst, z_ib_int, z_ii_int, z_neg_int, z_len_lst, z_len_tup, z_len_str, z_abs_int, z_int_int, z_cii_int, z_tuple_lst, z_tuple_tup, z_list_lst, z_list_tup, z_cut_lst, z_cut_tup, z_rev_lst, z_rev_tup, z_isN_, z_notN_, z_isB_, z_notB_, z_w1_, z_w2_, z_in_lst, z_in_tup, z_isK_int_int, z_isK_int_bl, z_isK_int_str, z_isK_int_tup, z_isK_int_lst, z_isK_int_dic, z_isK_int_non, z_isK_bool_int, z_isK_bool_bl, z_isK_bool_str, z_isK_bool_tup, z_isK_bool_lst, z_isK_bool_dic, z_isK_bool_non, z_isK_str_int, z_isK_str_bl, z_isK_str_str, z_isK_str_tup, z_isK_str_lst, z_isK_str_dic, z_isK_str_non, z_isK_tuple_int, z_isK_tuple_bl, z_isK_tuple_str, z_isK_tuple_tup, z_isK_tuple_lst, z_isK_tuple_dic, z_isK_tuple_non, z_isK_list_int, z_isK_list_bl, z_isK_list_str, z_isK_list_tup, z_isK_list_lst, z_isK_list_dic, z_isK_list_non, z_isK_dict_int, z_isK_dict_bl, z_isK_dict_str, z_isK_dict_tup, z_isK_dict_lst, z_isK_dict_dic, z_isK_dict_non, z_items_lst, z_items_tup]
          refine ⟨longer, MS.set_same, ?_, ?_⟩
          · rw [sizeLine_eq, List.length_map]
            have := List.length_filter_le (fun d => match d with | .int l => !decide (l ∈ is) | _ => false) (rangeD 0 n.toNat)
            rw [rangeD_length] at this
            omega
          · rw [MS.set_set]
            refine hN2 _ _ ⟨_, _, _, rfl, rfl, ?_, ?_⟩
            · rw [List.length_append, List.length_map]
              have := List.length_filter_le (fun d => match d with | .int l => !decide (l ∈ is) | _ => false) (rangeD 0 n.toNat)
              rw [rangeD_length] at this
              omega
            · intro x hx
              rcases List.mem_append.mp hx with hx | hx
              · exact hal x hx
              · obtain ⟨d', hd', rfl⟩ := List.mem_map.mp hx
                obtain ⟨hd1, hd2⟩ := List.mem_filter.mp hd'
                obtain ⟨k, hk, rfl⟩ := rangeD_mem hd1
                have hk2 : ¬ (0 + (k : Int)) ∈ is := by simpa using hd2
                refine ⟨is ++ [0 + (k : Int)], rfl, by rw [List.length_append, h1]; rfl, ?_, ?_⟩
                · rw [List.nodup_append]
                  refine ⟨h3, by simp, fun a ha b hb e => ?_⟩
                  rw [List.mem_singleton.mp hb] at e
                  rw [e] at ha
                  exact hk2 ha
                · intro l hl
                  rcases List.mem_append.mp hl with h | h
                  · exact h4 l h
                  · rw [List.mem_singleton.mp h]
                    omega)
theorem D__law_orders (A : Al K mg) : Def P w K mg base CX0 1 "_law_orders" ["count"] sp__law_orders := by
  obtain ⟨f, fd, Fu, hm, hb⟩ := fu__law_orders A
  exact ⟨f, fd, O__law_orders A Fu, hm, Fu.kp, hb⟩
end
end W38
namespace W38
open PySem PySem.Spec PyProof.Rows L2 DL
theorem sc_is_within : FnScope ["thing", "low", "high"] ["thing", "low", "high"] (defScope s_is_within) := ⟨rfl, rfl, rfl, by decide +kernel, rfl, by decide +kernel, by decide +kernel⟩
theorem ar_is_within : ∀ ds S Q E, sp_is_within ds S Q E → ds.length = 3 := by
  rintro ds S Q E h
  simp only [sp_is_within] at h
  obtain ⟨_, h⟩ := h
  repeat (first | (obtain ⟨rfl, _⟩ := h; rfl) | (obtain ⟨_, h⟩ := h))
section
variable {P : Program} {w : World} {K : PySem.W.Frag} {mg : Str → Option Value} {base : Heap}
theorem O_is_within (A : Al K mg) {f : Addr} {fd : FuncData} (Fu : FunD K "is_within" "is_within" (defArgs s_is_within) (defBody s_is_within) (defScope s_is_within) [] [] f fd) : FnOk P w K mg base CX0 2 f fd ["thing", "low", "high"] (spD K sp_is_within) := by
  refine fn_d Fu sc_is_within ar_is_within (fun cdv A0 outer s0 H0 E0' hr => ⟨_, _,
      (db_one (ds_ret (de_and (de_callK (D_is_integer A) (hr.mono (by decide)) pass0 rfl (da_cons (de_var 0) da_nil)) (de_one (de_ch op_le op_le ro_IB ro_IB (de_var 1) (de_var 0) (de_var 2)))))),
      ?_⟩)
  all_goals (
    rintro ds S Q Ed ⟨x, lo, hi, rfl, pl, q⟩
    simp only [wSeq, wNext, wIfS, wAsg, wRet, wRetN, wDrop, wOp, wUn, wgSub, wBM, z_tyd_lst,  wCB, wCons, wNil, wVar, wVarF, wC, wgName, wTe, wAnd, wOr, DL.wNot, wAndV, wOrV, wNotV, wIf, wCh, wEq, wNe, wIsi, wIsi2, wCall, wNever, wTup, wLst, wSl, wNoPart, wPart, wYes, endD, startR, newL_f, newL_t, List.map, List.length, List.length_cons, List.length_nil, List.getElem?_cons_zero, List.getElem?_cons_succ, List.set_cons_zero, List.set_cons_succ, List.cons_append, List.nil_append, List.append_nil, List.replicate, Nat.reduceSub, Nat.reduceAdd, Option.some.injEq, ex_some_iff, ex_bl_iff, ex_int_iff, ex_tup_iff, exists_eq_left', true_and, and_true, rd_non, rd_bl, rd_int, rd_str, rd_tup, rd_lst, pl_int, pl_bl, pl_non, pl_tup, pl_lst, pl_str, isNon_int, isNon_bl, isNon_non, isNon_tup, isNon_str, isNon_ref, isNon_lst, okD_int, okD_bl, okD_non, eqD_int, eqD_bl, eqD_non, Bool.false_eq_true, if_true, if_false, ite_true, ite_false, Bool.not_true, Bool.not_false, D.int.injEq, D.tup.injEq, D.lst.injEq, D.ref.injEq, D.bl.injEq, MO.lst.injEq, List.cons.injEq, reduceCtorEq, false_and, and_false, exists_const, and_assoc, exists_and_left, exists_eq_left, wLc, wiSeq, wipeR, id, wiEnum, wiZip, wiRng1, wiRng2, wgTup, lenOk, wgCons, wgNil, wFor, wLstRg1, z_in_lst, z_in_tup, flat_int, flat_ints, inD_ints, wRev, wDic0, wExtend,  z_ix_0, z_ixt_0, z_ix_1, z_ixt_1, z_ix_2, z_ixt_2, z_ix_3, z_ixt_3, z_ix_4, z_ixt_4, z_ix_5, z_ixt_5, z_ix_6, z_ixt_6, z_ix_7, z_ixt_7, z_ix_8, z_ixt_8, z_add_int, z_add_tup, z_add_lst, z_add_str, z_mul_int, z_mul_tup, z_mul_lst, z_ib_int, z_ii_int, z_neg_int, z_len_lst, z_len_tup, z_len_str, z_abs_int, z_int_int, z_cii_int, z_tuple_lst, z_tuple_tup, z_list_lst, z_list_tup, z_cut_lst, z_cut_tup, z_rev_lst, z_rev_tup, z_isN_, z_notN_, z_isB_, z_notB_, z_w1_, z_w2_, z_in_lst, z_in_tup, z_isK_int_int, z_isK_int_bl, z_isK_int_str, z_isK_int_tup, z_isK_int_lst, z_isK_int_dic, z_isK_int_non, z_isK_bool_int, z_isK_bool_bl, z_isK_bool_str, z_isK_bool_tup, z_isK_bool_lst, z_isK_bool_dic, z_isK_bool_non, z_isK_str_int, z_isK_str_bl, z_isK_str_str, z_isK_str_tup, z_isK_str_lst, z_isK_str_dic, z_isK_str_non, z_isK_tuple_int, z_isK_tuple_bl, z_isK_tuple_str, z_isK_tuple_tup, z_isK_tuple_lst, z_isK_tuple_dic, z_isK_tuple_non, z_isK_list_int, z_isK_list_bl, z_isK_list_str, z_isK_list_tup, z_isK_list_lst, z_isK_list_dic, z_isK_list_non, z_isK_dict_int, z_isK_dict_bl, z_isK_dict_str, z_isK_dict_tup, z_isK_dict_lst, z_isK_dict_dic, z_isK_dict_non, z_items_lst, z_items_tup, sp_is_integer, rd_pl pl, pl]
    cases x <;> first | exact outK.same q | skip
    rename_i i
    simp only [wSeq, wNext, wIfS, wAsg, wRet, wRetN, wDrop, wOp, wUn, wgSub, wBM, z_tyd_lst,  wCB, wCons, wNil, wVar, wVarF, wC, wgName, wTe, wAnd, wOr, DL.wNot, wAndV, wOrV, wNotV, wIf, wCh, wEq, wNe, wIsi, wIsi2, wCall, wNever, wTup, wLst, wSl, wNoPart, wPart, wYes, endD, startR, newL_f, newL_t, List.map, List.length, List.length_cons, List.length_nil, List.getElem?_cons_zero, List.getElem?_cons_succ, List.set_cons_zero, List.set_cons_succ, List.cons_append, List.nil_append, List.append_nil, List.replicate, Nat.reduceSub, Nat.reduceAdd, Option.some.injEq, ex_some_iff, ex_bl_iff, ex_int_iff, ex_tup_iff, exists_eq_left', true_and, and_true, rd_non, rd_bl, rd_int, rd_str, rd_tup, rd_lst, pl_int, pl_bl, pl_non, pl_tup, pl_lst, pl_str, isNon_int, isNon_bl, isNon_non, isNon_tup, isNon_str, isNon_ref, isNon_lst, okD_int, okD_bl, okD_non, eqD_int, eqD_bl, eqD_non, Bool.false_eq_true, if_true, if_false, ite_true, ite_false, Bool.not_true, Bool.not_false, D.int.injEq, D.tup.injEq, D.lst.injEq, D.ref.injEq, D.bl.injEq, MO.lst.injEq, List.cons.injEq, reduceCtorEq, false_and, and_false, exists_const, and_assoc, exists_and_left, exists_eq_left, wLc, wiSeq, wipeR, id, wiEnum, wiZip, wiRng1, wiRng2, wgTup, lenOk, wgCons, wgNil, wFor, wLstRg1, z_in_lst, z_in_tup, flat_int, flat_ints, inD_ints, wRev, wDic0, wExtend,  z_ix_0, z_ixt_0, z_ix_1, z_ixt_1, z_ix_2, z_ixt_2, z_ix_3, z_ixt_3, z_ix_4, z_ixt_4, z_ix_5, z_ixt_5, z_ix_6, z_ixt_6, z_ix_7, z_ixt_7, z_ix_8, z_ixt_8, z_add_int, z_add_tup, z_add_lst, z_add_str, z_mul_int, z_mul_tup, z_mul_lst, z_ib_int, z_ii_int, z_neg_int, z_len_lst, z_len_tup, z_len_str, z_abs_int, z_int_int, z_cii_int, z_tuple_lst, z_tuple_tup, z_list_lst, z_list_tup, z_cut_lst, z_cut_tup, z_rev_lst, z_rev_tup, z_isN_, z_notN_, z_isB_, z_notB_, z_w1_, z_w2_, z_in_lst, z_in_tup, z_isK_int_int, z_isK_int_bl, z_isK_int_str, z_isK_int_tup, z_isK_int_lst, z_isK_int_dic, z_isK_int_non, z_isK_bool_int, z_isK_bool_bl, z_isK_bool_str, z_isK_bool_tup, z_isK_bool_lst, z_isK_bool_dic, z_isK_bool_non, z_isK_str_int, z_isK_str_bl, z_isK_str_str, z_isK_str_tup, z_isK_str_lst, z_isK_str_dic, z_isK_str_non, z_isK_tuple_int, z_isK_tuple_bl, z_isK_tuple_str, z_isK_tuple_tup, z_isK_tuple_lst, z_isK_tuple_dic, z_isK_tuple_non, z_isK_list_int, z_isK_list_bl, z_isK_list_str, z_isK_list_tup, z_isK_list_lst, z_isK_list_dic, z_isK_list_non, z_isK_dict_int, z_isK_dict_bl, z_isK_dict_str, z_isK_dict_tup, z_isK_dict_lst, z_isK_dict_dic, z_isK_dict_non, z_items_lst, z_items_tup, isInt]
    refine ite_bl (fun h => ?_) (fun h => ?_) <;> simp only [isWithin, h, Bool.true_and, Bool.false_and] at q <;> exact outK.same q)
theorem D_is_within (A : Al K mg) : Def P w K mg base CX0 2 "is_within" ["thing", "low", "high"] sp_is_within := by
  obtain ⟨f, fd, Fu, hm, hb⟩ := fu_is_within A
  exact ⟨f, fd, O_is_within A Fu, hm, Fu.kp, hb⟩
end
end W38
namespace W38
open PySem PySem.Spec PyProof.Rows L2 DL
theorem sc__law_some : FnScope ["hand", "items"] ["hand", "items"] (defScope s__law_some) := ⟨rfl, rfl, rfl, by decide +kernel, rfl, by decide +kernel, by decide +kernel⟩
theorem ar__law_some : ∀ ds S Q E, sp__law_some ds S Q E → ds.length = 2 := by
  rintro ds S Q E h
  simp only [sp__law_some] at h
  obtain ⟨_, h⟩ := h
  repeat (first | (obtain ⟨rfl, _⟩ := h; rfl) | (obtain ⟨_, h⟩ := h))
section
variable {P : Program} {w : World} {K : PySem.W.Frag} {mg : Str → Option Value} {base : Heap}
theorem O__law_some (A : Al K mg) {f : Addr} {fd : FuncData} (Fu : FunD K "_law_some" "_law_some" (defArgs s__law_some) (defBody s__law_some) (defScope s__law_some) [] [] f fd) : FnOk P w K mg base CX0 2 f fd ["hand", "items"] (spD K sp__law_some) := by
  refine fn_d Fu sc__law_some ar__law_some (fun cdv A0 outer s0 H0 E0' hr => ⟨_, _,
      (db_one (ds_ret (de_ixK K (de_var 1) (de_callK (V__law_draw A) (hr.mono (by decide)) pass0 rfl (da_cons (de_var 0) (da_cons (de_cb (call_lenK K) roc_len rfl A.b_len (by decide +kernel) (da_cons (de_var 1) da_nil)) da_nil)))))),
      ?_⟩)
  all_goals (
    rintro ds S Q Ed ⟨t, xs, rfl, hs, hl, q⟩
    simp only [wSeq, wNext, wIfS, wAsg, wRet, wRetN, wDrop, wOp, wUn, wgSub, wBM, z_tyd_lst,  wCB, wCons, wNil, wVar, wVarF, wC, wgName, wTe, wAnd, wOr, DL.wNot, wAndV, wOrV, wNotV, wIf, wCh, wEq, wNe, wIsi, wIsi2, wCall, wNever, wTup, wLst, wSl, wNoPart, wPart, wYes, endD, startR, newL_f, newL_t, List.map, List.length, List.length_cons, List.length_nil, List.getElem?_cons_zero, List.getElem?_cons_succ, List.set_cons_zero, List.set_cons_succ, List.cons_append, List.nil_append, List.append_nil, List.replicate, Nat.reduceSub, Nat.reduceAdd, Option.some.injEq, ex_some_iff, ex_bl_iff, ex_int_iff, ex_tup_iff, exists_eq_left', true_and, and_true, rd_non, rd_bl, rd_int, rd_str, rd_tup, rd_lst, pl_int, pl_bl, pl_non, pl_tup, pl_lst, pl_str, isNon_int, isNon_bl, isNon_non, isNon_tup, isNon_str, isNon_ref, isNon_lst, okD_int, okD_bl, okD_non, eqD_int, eqD_bl, eqD_non, Bool.false_eq_true, if_true, if_false, ite_true, ite_false, Bool.not_true, Bool.not_false, D.int.injEq, D.tup.injEq, D.lst.injEq, D.ref.injEq, D.bl.injEq, MO.lst.injEq, List.cons.injEq, reduceCtorEq, false_and, and_false, exists_const, and_assoc, exists_and_left, exists_eq_left, wLc, wiSeq, wipeR, id, wiEnum, wiZip, wiRng1, wiRng2, wgTup, lenOk, wgCons, wgNil, wFor, wLstRg1, z_in_lst, z_in_tup, flat_int, flat_ints, inD_ints, wRev, wDic0, wExtend,  z_ix_0, z_ixt_0, z_ix_1, z_ixt_1, z_ix_2, z_ixt_2, z_ix_3, z_ixt_3, z_ix_4, z_ixt_4, z_ix_5, z_ixt_5, z_ix_6, z_ixt_6, z_ix_7, z_ixt_7, z_ix_8, z_ixt_8, z_add_int, z_add_tup, z_add_lst, z_add_str, z_mul_int, z_mul_tup, z_mul_lst, z_ib_int, z_ii_int, z_neg_int, z_len_lst, z_len_tup, z_len_str, z_abs_int, z_int_int, z_cii_int, z_tuple_lst, z_tuple_tup, z_list_lst, z_list_tup, z_cut_lst, z_cut_tup, z_rev_lst, z_rev_tup, z_isN_, z_notN_, z_isB_, z_notB_, z_w1_, z_w2_, z_in_lst, z_in_tup, z_isK_int_int, z_isK_int_bl, z_isK_int_str, z_isK_int_tup, z_isK_int_lst, z_isK_int_dic, z_isK_int_non, z_isK_bool_int, z_isK_bool_bl, z_isK_bool_str, z_isK_bool_tup, z_isK_bool_lst, z_isK_bool_dic, z_isK_bool_non, z_isK_str_int, z_isK_str_bl, z_isK_str_str, z_isK_str_tup, z_isK_str_lst, z_isK_str_dic, z_isK_str_non, z_isK_tuple_int, z_isK_tuple_bl, z_isK_tuple_str, z_isK_tuple_tup, z_isK_tuple_lst, z_isK_tuple_dic, z_isK_tuple_non, z_isK_list_int, z_isK_list_bl, z_isK_list_str, z_isK_list_tup, z_isK_list_lst, z_isK_list_dic, z_isK_list_non, z_isK_dict_int, z_isK_dict_bl, z_isK_dict_str, z_isK_dict_tup, z_isK_dict_lst, z_isK_dict_dic, z_isK_dict_non, z_items_lst, z_items_tup, drawSp]
    refine ⟨hs, by omega, by omega, fun i h0 h1 => ?_⟩
    simp only [wSeq, wNext, wIfS, wAsg, wRet, wRetN, wDrop, wOp, wUn, wgSub, wBM, z_tyd_lst,  wCB, wCons, wNil, wVar, wVarF, wC, wgName, wTe, wAnd, wOr, DL.wNot, wAndV, wOrV, wNotV, wIf, wCh, wEq, wNe, wIsi, wIsi2, wCall, wNever, wTup, wLst, wSl, wNoPart, wPart, wYes, endD, startR, newL_f, newL_t, List.map, List.length, List.length_cons, List.length_nil, List.getElem?_cons_zero, List.getElem?_cons_succ, List.set_cons_zero, List.set_cons_succ, List.cons_append, List.nil_append, List.append_nil, List.replicate, Nat.reduceSub, Nat.reduceAdd, Option.some.injEq, ex_some_iff, ex_bl_iff, ex_int_iff, ex_tup_iff, exists_eq_left', true_and, and_true, rd_non, rd_bl, rd_int, rd_str, rd_tup, rd_lst, pl_int, pl_bl, pl_non, pl_tup, pl_lst, pl_str, isNon_int, isNon_bl, isNon_non, isNon_tup, isNon_str, isNon_ref, isNon_lst, okD_int, okD_bl, okD_non, eqD_int, eqD_bl, eqD_non, Bool.false_eq_true, if_true, if_false, ite_true, ite_false, Bool.not_true, Bool.not_false, D.int.injEq, D.tup.injEq, D.lst.injEq, D.ref.injEq, D.bl.injEq, MO.lst.injEq, List.cons.injEq, reduceCtorEq, false_and, and_false, exists_const, and_assoc, exists_and_left, exists_eq_left, wLc, wiSeq, wipeR, id, wiEnum, wiZip, wiRng1, wiRng2, wgTup, lenOk, wgCons, wgNil, wFor, wLstRg1, z_in_lst, z_in_tup, flat_int, flat_ints, inD_ints, wRev, wDic0, wExtend,  z_ix_0, z_ixt_0, z_ix_1, z_ixt_1, z_ix_2, z_ixt_2, z_ix_3, z_ixt_3, z_ix_4, z_ixt_4, z_ix_5, z_ixt_5, z_ix_6, z_ixt_6, z_ix_7, z_ixt_7, z_ix_8, z_ixt_8, z_add_int, z_add_tup, z_add_lst, z_add_str, z_mul_int, z_mul_tup, z_mul_lst, z_ib_int, z_ii_int, z_neg_int, z_len_lst, z_len_tup, z_len_str, z_abs_int, z_int_int, z_cii_int, z_tuple_lst, z_tuple_tup, z_list_lst, z_list_tup, z_cut_lst, z_cut_tup, z_rev_lst, z_rev_tup, z_isN_, z_notN_, z_isB_, z_notB_, z_w1_, z_w2_, z_in_lst, z_in_tup, z_isK_int_int, z_isK_int_bl, z_isK_int_str, z_isK_int_tup, z_isK_int_lst, z_isK_int_dic, z_isK_int_non, z_isK_bool_int, z_isK_bool_bl, z_isK_bool_str, z_isK_bool_tup, z_isK_bool_lst, z_isK_bool_dic, z_isK_bool_non, z_isK_str_int, z_isK_str_bl, z_isK_str_str, z_isK_str_tup, z_isK_str_lst, z_isK_str_dic, z_isK_str_non, z_isK_tuple_int, z_isK_tuple_bl, z_isK_tuple_str, z_isK_tuple_tup, z_isK_tuple_lst, z_isK_tuple_dic, z_isK_tuple_non, z_isK_list_int, z_isK_list_bl, z_isK_list_str, z_isK_list_tup, z_isK_list_lst, z_isK_list_dic, z_isK_list_non, z_isK_dict_int, z_isK_dict_bl, z_isK_dict_str, z_isK_dict_tup, z_isK_dict_lst, z_isK_dict_dic, z_isK_dict_non, z_items_lst, z_items_tup, z_ix_lt h0 h1]
    exact outK.same (q _ (getD_mem (by omega))))
theorem D__law_some (A : Al K mg) : Def P w K mg base CX0 2 "_law_some" ["hand", "items"] sp__law_some := by
  obtain ⟨f, fd, Fu, hm, hb⟩ := fu__law_some A
  exact ⟨f, fd, O__law_some A Fu, hm, Fu.kp, hb⟩
end
end W38
namespace W38
open PySem PySem.Spec PyProof.Rows L2 DL
theorem sc__law_shuffled : FnScope ["hand", "count", "left", "found"] ["hand", "count"] (defScope s__law_shuffled) := ⟨rfl, rfl, rfl, by decide +kernel, rfl, by decide +kernel, by decide +kernel⟩
theorem ar__law_shuffled : ∀ ds S Q E, sp__law_shuffled ds S Q E → ds.length = 2 := by
  rintro ds S Q E h
  simp only [sp__law_shuffled] at h
  obtain ⟨_, h⟩ := h
  repeat (first | (obtain ⟨rfl, _⟩ := h; rfl) | (obtain ⟨_, h⟩ := h))
section
variable {P : Program} {w : World} {K : PySem.W.Frag} {mg : Str → Option Value} {base : Heap}
theorem O__law_shuffled (A : Al K mg) {f : Addr} {fd : FuncData} (Fu : FunD K "_law_shuffled" "_law_shuffled" (defArgs s__law_shuffled) (defBody s__law_shuffled) (defScope s__law_shuffled) [] [] f fd) : FnOk P w K mg base CX0 2 f fd ["hand", "count"] (spD K sp__law_shuffled) := by
  refine fn_d Fu sc__law_shuffled ar__law_shuffled (fun cdv A0 outer s0 H0 E0' hr => ⟨_, _,
      (db_cons (ds_par 2 3 rfl sc__law_shuffled.nd (by decide) (da_cons (de_listRg1 true rfl rfl A.b_list rfl A.b_range (de_var 1)) (da_cons (de_lst true da_nil) da_nil)))
      (db_cons (ds_while PassesOwn.never (dt_cmp op_gt ro_IB (de_cb (call_lenK K) roc_len rfl A.b_len (by decide +kernel) (da_cons (de_var 2) da_nil)) de_int (nomark _))
        (db_one (ds_expr (de_bmK K PySem.F.plainAttrs_list PySem.F.slot_list_append PySem.F.type_list_append mt_append rm_append (de_var 3) (da_cons (de_bmK K PySem.F.plainAttrs_list PySem.F.slot_list_pop PySem.F.type_list_pop mt_popAt rm_popAt (de_var 2) (da_cons (de_callK (V__law_draw A) (hr.mono (by decide)) pass0 rfl (da_cons (de_var 0) (da_cons (de_cb (call_lenK K) roc_len rfl A.b_len (by decide +kernel) (da_cons (de_var 2) da_nil)) da_nil))) da_nil)) da_nil)))))
      (db_one (ds_ret (de_ct (call_tupleK K) roc_tuple rfl A.b_tuple (by decide +kernel) (da_cons (de_var 3) da_nil)))))),
      ?_⟩)
  all_goals (
    rintro ds S Q Ed ⟨t, n, rfl, hs, hn, q⟩
    simp only [wSeq, wNext, wIfS, wAsg, wRet, wRetN, wDrop, wOp, wUn, wgSub, wBM, z_tyd_lst,  wCB, wCons, wNil, wVar, wVarF, wC, wgName, wTe, wAnd, wOr, DL.wNot, wAndV, wOrV, wNotV, wIf, wCh, wEq, wNe, wIsi, wIsi2, wCall, wNever, wTup, wLst, wSl, wNoPart, wPart, wYes, endD, startR, newL_f, newL_t, List.map, List.length, List.length_cons, List.length_nil, List.getElem?_cons_zero, List.getElem?_cons_succ, List.set_cons_zero, List.set_cons_succ, List.cons_append, List.nil_append, List.append_nil, List.replicate, Nat.reduceSub, Nat.reduceAdd, Option.some.injEq, ex_some_iff, ex_bl_iff, ex_int_iff, ex_tup_iff, exists_eq_left', true_and, and_true, rd_non, rd_bl, rd_int, rd_str, rd_tup, rd_lst, pl_int, pl_bl, pl_non, pl_tup, pl_lst, pl_str, isNon_int, isNon_bl, isNon_non, isNon_tup, isNon_str, isNon_ref, isNon_lst, okD_int, okD_bl, okD_non, eqD_int, eqD_bl, eqD_non, Bool.false_eq_true, if_true, if_false, ite_true, ite_false, Bool.not_true, Bool.not_false, D.int.injEq, D.tup.injEq, D.lst.injEq, D.ref.injEq, D.bl.injEq, MO.lst.injEq, List.cons.injEq, reduceCtorEq, false_and, and_false, exists_const, and_assoc, exists_and_left, exists_eq_left, wLc, wiSeq, wipeR, id, wiEnum, wiZip, wiRng1, wiRng2, wgTup, lenOk, wgCons, wgNil, wFor, wLstRg1, z_in_lst, z_in_tup, flat_int, flat_ints, inD_ints, wRev, wDic0, wExtend,  z_ix_0, z_ixt_0, z_ix_1, z_ixt_1, z_ix_2, z_ixt_2, z_ix_3, z_ixt_3, z_ix_4, z_ixt_4, z_ix_5, z_ixt_5, z_ix_6, z_ixt_6, z_ix_7, z_ixt_7, z_ix_8, z_ixt_8, z_add_int, z_add_tup, z_add_lst, z_add_str, z_mul_int, z_mul_tup, z_mul_lst, z_ib_int, z_ii_int, z_neg_int, z_len_lst, z_len_tup, z_len_str, z_abs_int, z_int_int, z_cii_int, z_tuple_lst, z_tuple_tup, z_list_lst, z_list_tup, z_cut_lst, z_cut_tup, z_rev_lst, z_rev_tup, z_isN_, z_notN_, z_isB_, z_notB_, z_w1_, z_w2_, z_in_lst, z_in_tup, z_isK_int_int, z_isK_int_bl, z_isK_int_str, z_isK_int_tup, z_isK_int_lst, z_isK_int_dic, z_isK_int_non, z_isK_bool_int, z_isK_bool_bl, z_isK_bool_str, z_isK_bool_tup, z_isK_bool_lst, z_isK_bool_dic, z_isK_bool_non, z_isK_str_int, z_isK_str_bl, z_isK_str_str, z_isK_str_tup, z_isK_str_lst, z_isK_str_dic, z_isK_str_non, z_isK_tuple_int, z_isK_tuple_bl, z_isK_tuple_str, z_isK_tuple_tup, z_isK_tuple_lst, z_isK_tuple_dic, z_isK_tuple_non, z_isK_list_int, z_isK_list_bl, z_isK_list_str, z_isK_list_tup, z_isK_list_lst, z_isK_list_dic, z_isK_list_non, z_isK_dict_int, z_isK_dict_bl, z_isK_dict_str, z_isK_dict_tup, z_isK_dict_lst, z_isK_dict_dic, z_isK_dict_non, z_items_lst, z_items_tup, wPar]
    refine ⟨by unfold RgOk; omega, fun a ha => ⟨Nat.zero_le _, fun b hb => ?_⟩⟩
    have ba : b ≠ a := fun e => by
      rw [e, MS.set_same] at hb
      cases hb
    have ab : a ≠ b := Ne.symm ba
    rw [MS.set_ne ba] at hb
    have hset : ∀ x y z, ((S.set a x).set b y).set a z = (S.set a z).set b y := fun x y z => by rw [MS.set_comm ba, MS.set_set, MS.set_comm ab]
    have hset2 : ∀ x y z, ((S.set a x).set b y).set b z = (S.set a x).set b z := fun x y z => MS.set_set
    have ra : ∀ x y, rd ((S.set a (.lst x)).set b y) (.ref a) = .lst x := fun x y => by rw [rd_set_ne ab, z_rd_set]
    have rb : ∀ x y, rd ((S.set a x).set b (.lst y)) (.ref b) = .lst y := fun x y => z_rd_set
    have ga : ∀ x y, ((S.set a x).set b y) a = some x := fun x y => by rw [MS.set_ne ab, MS.set_same]
    have gt : ∀ x y, ((S.set a x).set b y) t = some (.opq (opq2 JH)) := fun x y => by
      rw [MS.set_ne (fun e => by rw [e, hb] at hs; cases hs), MS.set_ne (fun e => by rw [e, ha] at hs; cases hs)]
      exact hs
    refine ⟨fun k ρ S' => ∃ ls fs : List Int, ls.length = k ∧ permN n (fs ++ ls) ∧ ρ = [some (.ref t), some (.int n), some (.ref a), some (.ref b)] ∧ S' = (S.set a (.lst (ls.map D.int))).set b (.lst (fs.map D.int)), ⟨_, (List.range n.toNat).map fun (i : Nat) => (i : Int), [], rfl, List.Perm.refl _, rfl, ?_⟩, ?_⟩
    · rw [Int.sub_zero, show rangeD 0 n.toNat = ((List.range n.toNat).map fun (i : Nat) => (i : Int)).map D.int by simp [rangeD]]
      rfl
    · rintro k ρ S' ⟨ls, fs, hk, hp, rfl, rfl⟩
      simp only [wSeq, wNext, wIfS, wAsg, wRet, wRetN, wDrop, wOp, wUn, wgSub, wBM, z_tyd_lst,  wCB, wCons, wNil, wVar, wVarF, wC, wgName, wTe, wAnd, wOr, DL.wNot, wAndV, wOrV, wNotV, wIf, wCh, wEq, wNe, wIsi, wIsi2, wCall, wNever, wTup, wLst, wSl, wNoPart, wPart, wYes, endD, startR, newL_f, newL_t, List.map, List.length, List.length_cons, List.length_nil, List.getElem?_cons_zero, List.getElem?_cons_succ, List.set_cons_zero, List.set_cons_succ, List.cons_append, List.nil_append, List.append_nil, List.replicate, Nat.reduceSub, Nat.reduceAdd, Option.some.injEq, ex_some_iff, ex_bl_iff, ex_int_iff, ex_tup_iff, exists_eq_left', true_and, and_true, rd_non, rd_bl, rd_int, rd_str, rd_tup, rd_lst, pl_int, pl_bl, pl_non, pl_tup, pl_lst, pl_str, isNon_int, isNon_bl, isNon_non, isNon_tup, isNon_str, isNon_ref, isNon_lst, okD_int, okD_bl, okD_non, eqD_int, eqD_bl, eqD_non, Bool.false_eq_true, if_true, if_false, ite_true, ite_false, Bool.not_true, Bool.not_false, D.int.injEq, D.tup.injEq, D.lst.injEq, D.ref.injEq, D.bl.injEq, MO.lst.injEq, List.cons.injEq, reduceCtorEq, false_and, and_false, exists_const, and_assoc, exists_and_left, exists_eq_left, wLc, wiSeq, wipeR, id, wiEnum, wiZip, wiRng1, wiRng2, wgTup, lenOk, wgCons, wgNil, wFor, wLstRg1, z_in_lst, z_in_tup, flat_int, flat_ints, inD_ints, wRev, wDic0, wExtend,  z_ix_0, z_ixt_0, z_ix_1, z_ixt_1, z_ix_2, z_ixt_2, z_ix_3, z_ixt_3, z_ix_4, z_ixt_4, z_ix_5, z_ixt_5, z_ix_6, z_ixt_6, z_ix_7, z_ixt_7, z_ix_8, z_ixt_8, z_add_int, z_add_tup, z_add_lst, z_add_str, z_mul_int, z_mul_tup, z_mul_lst, z_ib_int, z_ii_int, z_neg_int, z_len_lst, z_len_tup, z_len_str, z_abs_int, z_int_int, z_cii_int, z_tuple_lst, z_tuple_tup, z_list_lst, z_list_tup, z_cut_lst, z_cut_tup, z_rev_lst, z_rev_tup, z_isN_, z_notN_, z_isB_, z_notB_, z_w1_, z_w2_, z_in_lst, z_in_tup, z_isK_int_int, z_isK_int_bl, z_isK_int_str, z_isK_int_tup, z_isK_int_lst, z_isK_int_dic, z_isK_int_non, z_isK_bool_int, z_isK_bool_bl, z_isK_bool_str, z_isK_bool_tup, z_isK_bool_lst, z_isK_bool_dic, z_isK_bool_non, z_isK_str_int, z_isK_str_bl, z_isK_str_str, z_isK_str_tup, z_isK_str_lst, z_isK_str_dic, z_isK_str_non, z_isK_tuple_int, z_isK_tuple_bl, z_isK_tuple_str, z_isK_tuple_tup, z_isK_tuple_lst, z_isK_tuple_dic, z_isK_tuple_non, z_isK_list_int, z_isK_list_bl, z_isK_list_str, z_isK_list_tup, z_isK_list_lst, z_isK_list_dic, z_isK_list_non, z_isK_dict_int, z_isK_dict_bl, z_isK_dict_str, z_isK_dict_tup, z_isK_dict_lst, z_isK_dict_dic, z_isK_dict_non, z_items_lst, z_items_tup, ra, List.length_map]
      refine ite_bl (fun h => ?_) (fun h => ?_)
      · have h0 : 0 < ls.length := by have := of_decide_eq_true h; omega
        have hlen := permN_length hn.1 hp
        rw [List.length_append] at hlen
        simp only [wSeq, wNext, wIfS, wAsg, wRet, wRetN, wDrop, wOp, wUn, wgSub, wBM, z_tyd_lst,  wCB, wCons, wNil, wVar, wVarF, wC, wgName, wTe, wAnd, wOr, DL.wNot, wAndV, wOrV, wNotV, wIf, wCh, wEq, wNe, wIsi, wIsi2, wCall, wNever, wTup, wLst, wSl, wNoPart, wPart, wYes, endD, startR, newL_f, newL_t, List.map, List.length, List.length_cons, List.length_nil, List.getElem?_cons_zero, List.getElem?_cons_succ, List.set_cons_zero, List.set_cons_succ, List.cons_append, List.nil_append, List.append_nil, List.replicate, Nat.reduceSub, Nat.reduceAdd, Option.some.injEq, ex_some_iff, ex_bl_iff, ex_int_iff, ex_tup_iff, exists_eq_left', true_and, and_true, rd_non, rd_bl, rd_int, rd_str, rd_tup, rd_lst, pl_int, pl_bl, pl_non, pl_tup, pl_lst, pl_str, isNon_int, isNon_bl, isNon_non, isNon_tup, isNon_str, isNon_ref, isNon_lst, okD_int, okD_bl, okD_non, eqD_int, eqD_bl, eqD_non, Bool.false_eq_true, if_true, if_false, ite_true, ite_false, Bool.not_true, Bool.not_false, D.int.injEq, D.tup.injEq, D.lst.injEq, D.ref.injEq, D.bl.injEq, MO.lst.injEq, List.cons.injEq, reduceCtorEq, false_and, and_false, exists_const, and_assoc, exists_and_left, exists_eq_left, wLc, wiSeq, wipeR, id, wiEnum, wiZip, wiRng1, wiRng2, wgTup, lenOk, wgCons, wgNil, wFor, wLstRg1, z_in_lst, z_in_tup, flat_int, flat_ints, inD_ints, wRev, wDic0, wExtend,  z_ix_0, z_ixt_0, z_ix_1, z_ixt_1, z_ix_2, z_ixt_2, z_ix_3, z_ixt_3, z_ix_4, z_ixt_4, z_ix_5, z_ixt_5, z_ix_6, z_ixt_6, z_ix_7, z_ixt_7, z_ix_8, z_ixt_8, z_add_int, z_add_tup, z_add_lst, z_add_str, z_mul_int, z_mul_tup, z_mul_lst, z_ib_int, z_ii_int, z_neg_int, z_len_lst, z_len_tup, z_len_str, z_abs_int, z_int_int, z_cii_int, z_tuple_lst, z_tuple_tup, z_list_lst, z_list_tup, z_cut_lst, z_cut_tup, z_rev_lst, z_rev_tup, z_isN_, z_notN_, z_isB_, z_notB_, z_w1_, z_w2_, z_in_lst, z_in_tup, z_isK_int_int, z_isK_int_bl, z_isK_int_str, z_isK_int_tup, z_isK_int_lst, z_isK_int_dic, z_isK_int_non, z_isK_bool_int, z_isK_bool_bl, z_isK_bool_str, z_isK_bool_tup, z_isK_bool_lst, z_isK_bool_dic, z_isK_bool_non, z_isK_str_int, z_isK_str_bl, z_isK_str_str, z_isK_str_tup, z_isK_str_lst, z_isK_str_dic, z_isK_str_non, z_isK_tuple_int, z_isK_tuple_bl, z_isK_tuple_str, z_isK_tuple_tup, z_isK_tuple_lst, z_isK_tuple_dic, z_isK_tuple_non, z_isK_list_int, z_isK_list_bl, z_isK_list_str, z_isK_list_tup, z_isK_list_lst, z_isK_list_dic, z_isK_list_non, z_isK_dict_int, z_isK_dict_bl, z_isK_dict_str, z_isK_dict_tup, z_isK_dict_lst, z_isK_dict_dic, z_isK_dict_non, z_items_lst, z_items_tup, ra, rb, drawSp]
        refine ⟨gt _ _, by omega, by omega, fun i h1 h2 => ?_⟩
        have hi : i.toNat < ls.length := by omega
        refine ⟨a, _, i, i.toNat, .int ls[i.toNat], rfl, rfl, ga _ _, by omega, by rw [List.getElem?_map, List.getElem?_eq_getElem hi]; rfl, le_sz (by rw [List.length_map]; omega), ?_⟩
        rw [hset, map_eraseIdx]
        refine ⟨b, _, _, rfl, rfl, MS.set_same, lt_sz (by rw [List.length_map]; omega), ls.length - 1, by omega, ls.eraseIdx i.toNat, by rw [List.length_eraseIdx_of_lt hi], fs ++ [ls[i.toNat]], ?_, ?_⟩
        · refine List.Perm.trans ?_ hp
          rw [List.append_assoc]
          refine List.Perm.append_left fs ?_
          exact perm_erase hi
        · rw [hset2, List.map_append]
          rfl
      · have h0 : ls = [] := by
          have := of_decide_eq_false h
          exact List.length_eq_zero_iff.mp (by omega)
        subst h0
        simp only [wSeq, wNext, wIfS, wAsg, wRet, wRetN, wDrop, wOp, wUn, wgSub, wBM, z_tyd_lst,  wCB, wCons, wNil, wVar, wVarF, wC, wgName, wTe, wAnd, wOr, DL.wNot, wAndV, wOrV, wNotV, wIf, wCh, wEq, wNe, wIsi, wIsi2, wCall, wNever, wTup, wLst, wSl, wNoPart, wPart, wYes, endD, startR, newL_f, newL_t, List.map, List.length, List.length_cons, List.length_nil, List.getElem?_cons_zero, List.getElem?_cons_succ, List.set_cons_zero, List.set_cons_succ, List.cons_append, List.nil_append, List.append_nil, List.replicate, Nat.reduceSub, Nat.reduceAdd, Option.some.injEq, ex_some_iff, ex_bl_iff, ex_int_iff, ex_tup_iff, exists_eq_left', true_and, and_true, rd_non, rd_bl, rd_int, rd_str, rd_tup, rd_lst, pl_int, pl_bl, pl_non, pl_tup, pl_lst, pl_str, isNon_int, isNon_bl, isNon_non, isNon_tup, isNon_str, isNon_ref, isNon_lst, okD_int, okD_bl, okD_non, eqD_int, eqD_bl, eqD_non, Bool.false_eq_true, if_true, if_false, ite_true, ite_false, Bool.not_true, Bool.not_false, D.int.injEq, D.tup.injEq, D.lst.injEq, D.ref.injEq, D.bl.injEq, MO.lst.injEq, List.cons.injEq, reduceCtorEq, false_and, and_false, exists_const, and_assoc, exists_and_left, exists_eq_left, wLc, wiSeq, wipeR, id, wiEnum, wiZip, wiRng1, wiRng2, wgTup, lenOk, wgCons, wgNil, wFor, wLstRg1, z_in_lst, z_in_tup, flat_int, flat_ints, inD_ints, wRev, wDic0, wExtend,  z_ix_0, z_ixt_0, z_ix_1, z_ixt_1, z_ix_2, z_ixt_2, z_ix_3, z_ixt_3, z_ix_4, z_ixt_4, z_ix_5, z_ixt_5, z_ix_6, z_ixt_6, z_ix_7, z_ixt_7, z_ix_8, z_ixt_8, z_add_int, z_add_tup, z_add_lst, z_add_str, z_mul_int, z_mul_tup, z_mul_lst, z_ib_int, z_ii_int, z_neg_int, z_len_lst, z_len_tup, z_len_str, z_abs_int, z_int_int, z_cii_int, z_tuple_lst, z_tuple_tup, z_list_lst, z_list_tup, z_cut_lst, z_cut_tup, z_rev_lst, z_rev_tup, z_isN_, z_notN_, z_isB_, z_notB_, z_w1_, z_w2_, z_in_lst, z_in_tup, z_isK_int_int, z_isK_int_bl, z_isK_int_str, z_isK_int_tup, z_isK_int_lst, z_isK_int_dic, z_isK_int_non, z_isK_bool_int, z_isK_bool_bl, z_isK_bool_str, z_isK_bool_tup, z_isK_bool_lst, z_isK_bool_dic, z_isK_bool_non, z_isK_str_int, z_isK_str_bl, z_isK_str_str, z_isK_str_tup, z_isK_str_lst, z_isK_str_dic, z_isK_str_non, z_isK_tuple_int, z_isK_tuple_bl, z_isK_tuple_str, z_isK_tuple_tup, z_isK_tuple_lst, z_isK_tuple_dic, z_isK_tuple_non, z_isK_list_int, z_isK_list_bl, z_isK_list_str, z_isK_list_tup, z_isK_list_lst, z_isK_list_dic, z_isK_list_non, z_isK_dict_int, z_isK_dict_bl, z_isK_dict_str, z_isK_dict_tup, z_isK_dict_lst, z_isK_dict_dic, z_isK_dict_non, z_items_lst, z_items_tup, rb]
        rw [List.append_nil] at hp
        exact outK.mk (fun z m hz => by
          rw [MS.set_ne (fun e => by rw [e, hb] at hz; cases hz), MS.set_ne (fun e => by rw [e, ha] at hz; cases hz)]
          exact hz) (q fs hp))
theorem D__law_shuffled (A : Al K mg) : Def P w K mg base CX0 2 "_law_shuffled" ["hand", "count"] sp__law_shuffled := by
  obtain ⟨f, fd, Fu, hm, hb⟩ := fu__law_shuffled A
  exact ⟨f, fd, O__law_shuffled A Fu, hm, Fu.kp, hb⟩
end
end W38
namespace W38
open PySem PySem.Spec PyProof.Rows L2 DL
theorem sc__law_screen : FnScope ["hand", "count", "sides", "found", "state", "row", "layer", "to"] ["hand", "count"] (defScope s__law_screen) := ⟨rfl, rfl, rfl, by decide +kernel, rfl, by decide +kernel, by decide +kernel⟩
theorem ar__law_screen : ∀ ds S Q E, sp__law_screen ds S Q E → ds.length = 2 := by
  rintro ds S Q E h
  simp only [sp__law_screen] at h
  obtain ⟨_, h⟩ := h
  repeat (first | (obtain ⟨rfl, _⟩ := h; rfl) | (obtain ⟨_, h⟩ := h))
section
variable {P : Program} {w : World} {K : PySem.W.Frag} {mg : Str → Option Value} {base : Heap}
theorem O__law_screen (A : Al K mg) {f : Addr} {fd : FuncData} (Fu : FunD K "_law_screen" "_law_screen" (defArgs s__law_screen) (defBody s__law_screen) (defScope s__law_screen) [] [] f fd) : FnOk P w K mg base CX0 2 f fd ["hand", "count"] (spD K sp__law_screen) := by
  refine fn_d Fu sc__law_screen ar__law_screen (fun cdv A0 outer s0 H0 E0' hr => ⟨_, _,
      (db_cons (ds_set 2 sc__law_screen.nd (de_op (op_addK K) (ro_add false) de_int (de_callK (V__law_draw A) (hr.mono (by decide)) pass0 rfl (da_cons (de_var 0) (da_cons de_int da_nil)))))
      (db_cons (ds_set 3 sc__law_screen.nd (de_lst true da_nil))
      (db_cons (ds_for (vs := [4]) PassesOwn.never rfl (di_range1 rfl A.b_range (da_cons (de_op op_sub ro_I0 (de_var 2) de_int) da_nil)) (dg_name (vs := [4]) 4 (by decide) sc__law_screen.nd)
        (db_cons (ds_set 5 sc__law_screen.nd (de_lst true da_nil))
        (db_cons (ds_for (vs := [6]) PassesOwn.never rfl (di_range1 rfl A.b_range (da_cons (de_var 1) da_nil)) (dg_name (vs := [6]) 6 (by decide) sc__law_screen.nd)
          (db_cons (ds_set 7 sc__law_screen.nd (de_op (op_addK K) (ro_add false) (de_op (op_addK K) (ro_add false) (de_var 4) de_int) (de_callK (V__law_draw A) (hr.mono (by decide)) pass0 rfl (da_cons (de_var 0) (da_cons (de_cb (call_min2 rfl) roc_min2 rfl A.b_min (by decide +kernel) (da_cons de_int (da_cons (de_op op_sub ro_I0 (de_op op_sub ro_I0 (de_var 2) de_int) (de_var 4)) da_nil))) da_nil)))))
          (db_one (ds_expr (de_bmK K PySem.F.plainAttrs_list PySem.F.slot_list_append PySem.F.type_list_append mt_append rm_append (de_var 5) (da_cons (de_if (dt_cmp op_gt ro_IB (de_callK (V__law_draw A) (hr.mono (by decide)) pass0 rfl (da_cons (de_var 0) (da_cons de_int da_nil))) de_int (nomark _)) (de_var 7) de_non) da_nil))))))
        (db_one (ds_expr (de_bmK K PySem.F.plainAttrs_list PySem.F.slot_list_append PySem.F.type_list_append mt_append rm_append (de_var 3) (da_cons (de_ct (call_tupleK K) roc_tuple rfl A.b_tuple (by decide +kernel) (da_cons (de_var 5) da_nil)) da_nil)))))))
      (db_one (ds_ret (de_op (op_addK K) (ro_add false) (de_ct (call_tupleK K) roc_tuple rfl A.b_tuple (by decide +kernel) (da_cons (de_var 3) da_nil)) (de_tup (da_cons (de_op (op_mulK K) (ro_mul false) (de_tup (da_cons de_non da_nil)) (de_var 1)) da_nil)))))))),
      ?_⟩)
  all_goals (
    rintro ds S Q Ed ⟨t, n, rfl, hs, hn, q⟩
    simp only [wSeq, wNext, wIfS, wAsg, wRet, wRetN, wDrop, wOp, wUn, wgSub, wBM, z_tyd_lst,  wCB, wCons, wNil, wVar, wVarF, wC, wgName, wTe, wAnd, wOr, DL.wNot, wAndV, wOrV, wNotV, wIf, wCh, wEq, wNe, wIsi, wIsi2, wCall, wNever, wTup, wLst, wSl, wNoPart, wPart, wYes, endD, startR, newL_f, newL_t, List.map, List.length, List.length_cons, List.length_nil, List.getElem?_cons_zero, List.getElem?_cons_succ, List.set_cons_zero, List.set_cons_succ, List.cons_append, List.nil_append, List.append_nil, List.replicate, Nat.reduceSub, Nat.reduceAdd, Option.some.injEq, ex_some_iff, ex_bl_iff, ex_int_iff, ex_tup_iff, exists_eq_left', true_and, and_true, rd_non, rd_bl, rd_int, rd_str, rd_tup, rd_lst, pl_int, pl_bl, pl_non, pl_tup, pl_lst, pl_str, isNon_int, isNon_bl, isNon_non, isNon_tup, isNon_str, isNon_ref, isNon_lst, okD_int, okD_bl, okD_non, eqD_int, eqD_bl, eqD_non, Bool.false_eq_true, if_true, if_false, ite_true, ite_false, Bool.not_true, Bool.not_false, D.int.injEq, D.tup.injEq, D.lst.injEq, D.ref.injEq, D.bl.injEq, MO.lst.injEq, List.cons.injEq, reduceCtorEq, false_and, and_false, exists_const, and_assoc, exists_and_left, exists_eq_left, wLc, wiSeq, wipeR, id, wiEnum, wiZip, wiRng1, wiRng2, wgTup, lenOk, wgCons, wgNil, wFor, wLstRg1, z_in_lst, z_in_tup, flat_int, flat_ints, inD_ints, wRev, wDic0, wExtend,  z_ix_0, z_ixt_0, z_ix_1, z_ixt_1, z_ix_2, z_ixt_2, z_ix_3, z_ixt_3, z_ix_4, z_ixt_4, z_ix_5, z_ixt_5, z_ix_6, z_ixt_6, z_ix_7, z_ixt_7, z_ix_8, z_ixt_8, z_add_int, z_add_tup, z_add_lst, z_add_str, z_mul_int, z_mul_tup, z_mul_lst, z_ib_int, z_ii_int, z_neg_int, z_len_lst, z_len_tup, z_len_str, z_abs_int, z_int_int, z_cii_int, z_tuple_lst, z_tuple_tup, z_list_lst, z_list_tup, z_cut_lst, z_cut_tup, z_rev_lst, z_rev_tup, z_isN_, z_notN_, z_isB_, z_notB_, z_w1_, z_w2_, z_in_lst, z_in_tup, z_isK_int_int, z_isK_int_bl, z_isK_int_str, z_isK_int_tup, z_isK_int_lst, z_isK_int_dic, z_isK_int_non, z_isK_bool_int, z_isK_bool_bl, z_isK_bool_str, z_isK_bool_tup, z_isK_bool_lst, z_isK_bool_dic, z_isK_bool_non, z_isK_str_int, z_isK_str_bl, z_isK_str_str, z_isK_str_tup, z_isK_str_lst, z_isK_str_dic, z_isK_str_non, z_isK_tuple_int, z_isK_tuple_bl, z_isK_tuple_str, z_isK_tuple_tup, z_isK_tuple_lst, z_isK_tuple_dic, z_isK_tuple_non, z_isK_list_int, z_isK_list_bl, z_isK_list_str, z_isK_list_tup, z_isK_list_lst, z_isK_list_dic, z_isK_list_non, z_isK_dict_int, z_isK_dict_bl, z_isK_dict_str, z_isK_dict_tup, z_isK_dict_lst, z_isK_dict_dic, z_isK_dict_non, z_items_lst, z_items_tup, drawSp]
    refine ⟨hs, by omega, by omega, fun i0 h0 h1 => ⟨Nat.zero_le _, fun a ha => ⟨by omega, by omega, ?_⟩⟩⟩
    have tl : ∀ T : MS, Sub S T → T a = none → ∀ x, (T.set a x) t = some (.opq (opq2 JH)) := fun T hT hTa x => by
      rw [MS.set_ne (fun e => by rw [e, ha] at hs; cases hs)]
      exact hT _ _ hs
    refine forW_n (fun i ρ S' => ∃ (T : MS) (found : List D), Sub S T ∧ T a = none ∧ S' = T.set a (.lst found) ∧ (∃ x4 x5 x6 x7, ρ = [some (D.ref t), some (D.int n), some (D.int (1 + i0)), some (D.ref a), x4, x5, x6, x7]) ∧ found.length = i ∧ pus found = true ∧ ∀ j, j < i → isState n (j : Nat) (1 + i0) (found.getD j .non) = true) (fun _ _ _ _ => trivial) (fun i d ρ S' hd h N hN => ?hs) (fun ρ S' h => ?hd) ⟨S, [], fun _ _ h => h, ha, rfl, ⟨_, _, _, _, rfl⟩, rfl, rfl, fun j hj => absurd hj (Nat.not_lt_zero _)⟩
    case hd =>
      obtain ⟨T, found, hT, hTa, rfl, ⟨x4, x5, x6, x7, rfl⟩, hl, pf, hst⟩ := h
      rw [rangeD_length] at hl hst
      have hl' : (found.length : Int) = i0 := by omega
      simp only [wSeq, wNext, wIfS, wAsg, wRet, wRetN, wDrop, wOp, wUn, wgSub, wBM, z_tyd_lst,  wCB, wCons, wNil, wVar, wVarF, wC, wgName, wTe, wAnd, wOr, DL.wNot, wAndV, wOrV, wNotV, wIf, wCh, wEq, wNe, wIsi, wIsi2, wCall, wNever, wTup, wLst, wSl, wNoPart, wPart, wYes, endD, startR, newL_f, newL_t, List.map, List.length, List.length_cons, List.length_nil, List.getElem?_cons_zero, List.getElem?_cons_succ, List.set_cons_zero, List.set_cons_succ, List.cons_append, List.nil_append, List.append_nil, List.replicate, Nat.reduceSub, Nat.reduceAdd, Option.some.injEq, ex_some_iff, ex_bl_iff, ex_int_iff, ex_tup_iff, exists_eq_left', true_and, and_true, rd_non, rd_bl, rd_int, rd_str, rd_tup, rd_lst, pl_int, pl_bl, pl_non, pl_tup, pl_lst, pl_str, isNon_int, isNon_bl, isNon_non, isNon_tup, isNon_str, isNon_ref, isNon_lst, okD_int, okD_bl, okD_non, eqD_int, eqD_bl, eqD_non, Bool.false_eq_true, if_true, if_false, ite_true, ite_false, Bool.not_true, Bool.not_false, D.int.injEq, D.tup.injEq, D.lst.injEq, D.ref.injEq, D.bl.injEq, MO.lst.injEq, List.cons.injEq, reduceCtorEq, false_and, and_false, exists_const, and_assoc, exists_and_left, exists_eq_left, wLc, wiSeq, wipeR, id, wiEnum, wiZip, wiRng1, wiRng2, wgTup, lenOk, wgCons, wgNil, wFor, wLstRg1, z_in_lst, z_in_tup, flat_int, flat_ints, inD_ints, wRev, wDic0, wExtend,  z_ix_0, z_ixt_0, z_ix_1, z_ixt_1, z_ix_2, z_ixt_2, z_ix_3, z_ixt_3, z_ix_4, z_ixt_4, z_ix_5, z_ixt_5, z_ix_6, z_ixt_6, z_ix_7, z_ixt_7, z_ix_8, z_ixt_8, z_add_int, z_add_tup, z_add_lst, z_add_str, z_mul_int, z_mul_tup, z_mul_lst, z_ib_int, z_ii_int, z_neg_int, z_len_lst, z_len_tup, z_len_str, z_abs_int, z_int_int, z_cii_int, z_tuple_lst, z_tuple_tup, z_list_lst, z_list_tup, z_cut_lst, z_cut_tup, z_rev_lst, z_rev_tup, z_isN_, z_notN_, z_isB_, z_notB_, z_w1_, z_w2_, z_in_lst, z_in_tup, z_isK_int_int, z_isK_int_bl, z_isK_int_str, z_isK_int_tup, z_isK_int_lst, z_isK_int_dic, z_isK_int_non, z_isK_bool_int, z_isK_bool_bl, z_isK_bool_str, z_isK_bool_tup, z_isK_bool_lst, z_isK_bool_dic, z_isK_bool_non, z_isK_str_int, z_isK_str_bl, z_isK_str_str, z_isK_str_tup, z_isK_str_lst, z_isK_str_dic, z_isK_str_non, z_isK_tuple_int, z_isK_tuple_bl, z_isK_tuple_str, z_isK_tuple_tup, z_isK_tuple_lst, z_isK_tuple_dic, z_isK_tuple_non, z_isK_list_int, z_isK_list_bl, z_isK_list_str, z_isK_list_tup, z_isK_list_lst, z_isK_list_dic, z_isK_list_non, z_isK_dict_int, z_isK_dict_bl, z_isK_dict_str, z_isK_dict_tup, z_isK_dict_lst, z_isK_dict_dic, z_isK_dict_non, z_items_lst, z_items_tup, z_rd_set]
      repeat (refine And.intro (by first | assumption | rfl | (rw [sizeLine_eq] ; simp only [List.length_append, List.length_cons, List.length_nil, List.length_map, List.length_replicate, rep_len] ; omega) | (simp only [List.length_append, List.length_cons, List.length_nil, List.length_map, List.length_replicate, rep_len] ; omega) | omega | (rw [sizeLine_eq] ; omega)) ?_)
      refine outK.mk (fun z m hz => Sub.set hTa z m (hT z m hz)) (q _ ?_ ?_ ?_)
      · rw [List.length_append, List.length_singleton]
        omega
      · exact pus_app pf (by simp [pus, pu]; exact pus_repl rfl)
      · have e0 : (List.replicate n.toNat [D.non]).flatten = List.replicate n.toNat D.non := by simp
        simp only [e0]
        simp only [isScreenOf, List.length_append, List.length_singleton]
        rw [decide_eq_true (show 1 ≤ found.length + 1 by omega), decide_eq_true (show found.length + 1 ≤ 3000 by omega)]
        refine List.all_eq_true.mpr fun j hj => ?_
        have hj' := List.mem_range.mp hj
        have es : ((found.length + 1 : Nat) : Int) = 1 + i0 := by omega
        rw [es]
        by_cases hji : j < found.length
        · have e1 : (found ++ [D.tup (List.replicate n.toNat D.non)]).getD j .non = found.getD j .non := by
            rw [List.getD_eq_getElem?_getD, List.getD_eq_getElem?_getD, List.getElem?_append_left hji]
          rw [e1]
          exact hst j (by omega)
        · have ej : j = found.length := by omega
          subst ej
          have e1 : (found ++ [D.tup (List.replicate n.toNat D.non)]).getD found.length .non = .tup (List.replicate n.toNat .non) := by
            rw [List.getD_eq_getElem?_getD, List.getElem?_append_right (Nat.le_refl _), Nat.sub_self]
            rfl
          rw [e1]
          simp only [isState, List.length_replicate, Bool.and_eq_true, decide_eq_true_eq]
          refine ⟨by omega, List.all_eq_true.mpr fun g hg => ?_⟩
          rw [List.eq_of_mem_replicate hg]
          rfl
    case hs =>
      obtain ⟨T, found, hT, hTa, rfl, ⟨x4, x5, x6, x7, rfl⟩, hl, pf, hst⟩ := h
      have hi : i < (1 + i0 - 1).toNat := by
        have := (List.getElem?_eq_some_iff.mp hd).1
        rw [rangeD_length] at this
        exact this
      have ed : d = .int (0 + (i : Int)) := by
        rw [rangeD_get hi] at hd
        cases hd
        rfl
      subst ed
      simp only [wSeq, wNext, wIfS, wAsg, wRet, wRetN, wDrop, wOp, wUn, wgSub, wBM, z_tyd_lst,  wCB, wCons, wNil, wVar, wVarF, wC, wgName, wTe, wAnd, wOr, DL.wNot, wAndV, wOrV, wNotV, wIf, wCh, wEq, wNe, wIsi, wIsi2, wCall, wNever, wTup, wLst, wSl, wNoPart, wPart, wYes, endD, startR, newL_f, newL_t, List.map, List.length, List.length_cons, List.length_nil, List.getElem?_cons_zero, List.getElem?_cons_succ, List.set_cons_zero, List.set_cons_succ, List.cons_append, List.nil_append, List.append_nil, List.replicate, Nat.reduceSub, Nat.reduceAdd, Option.some.injEq, ex_some_iff, ex_bl_iff, ex_int_iff, ex_tup_iff, exists_eq_left', true_and, and_true, rd_non, rd_bl, rd_int, rd_str, rd_tup, rd_lst, pl_int, pl_bl, pl_non, pl_tup, pl_lst, pl_str, isNon_int, isNon_bl, isNon_non, isNon_tup, isNon_str, isNon_ref, isNon_lst, okD_int, okD_bl, okD_non, eqD_int, eqD_bl, eqD_non, Bool.false_eq_true, if_true, if_false, ite_true, ite_false, Bool.not_true, Bool.not_false, D.int.injEq, D.tup.injEq, D.lst.injEq, D.ref.injEq, D.bl.injEq, MO.lst.injEq, List.cons.injEq, reduceCtorEq, false_and, and_false, exists_const, and_assoc, exists_and_left, exists_eq_left, wLc, wiSeq, wipeR, id, wiEnum, wiZip, wiRng1, wiRng2, wgTup, lenOk, wgCons, wgNil, wFor, wLstRg1, z_in_lst, z_in_tup, flat_int, flat_ints, inD_ints, wRev, wDic0, wExtend,  z_ix_0, z_ixt_0, z_ix_1, z_ixt_1, z_ix_2, z_ixt_2, z_ix_3, z_ixt_3, z_ix_4, z_ixt_4, z_ix_5, z_ixt_5, z_ix_6, z_ixt_6, z_ix_7, z_ixt_7, z_ix_8, z_ixt_8, z_add_int, z_add_tup, z_add_lst, z_add_str, z_mul_int, z_mul_tup, z_mul_lst, z_ib_int, z_ii_int, z_neg_int, z_len_lst, z_len_tup, z_len_str, z_abs_int, z_int_int, z_cii_int, z_tuple_lst, z_tuple_tup, z_list_lst, z_list_tup, z_cut_lst, z_cut_tup, z_rev_lst, z_rev_tup, z_isN_, z_notN_, z_isB_, z_notB_, z_w1_, z_w2_, z_in_lst, z_in_tup, z_isK_int_int, z_isK_int_bl, z_isK_int_str, z_isK_int_tup, z_isK_int_lst, z_isK_int_dic, z_isK_int_non, z_isK_bool_int, z_isK_bool_bl, z_isK_bool_str, z_isK_bool_tup, z_isK_bool_lst, z_isK_bool_dic, z_isK_bool_non, z_isK_str_int, z_isK_str_bl, z_isK_str_str, z_isK_str_tup, z_isK_str_lst, z_isK_str_dic, z_isK_str_non, z_isK_tuple_int, z_isK_tuple_bl, z_isK_tuple_str, z_isK_tuple_tup, z_isK_tuple_lst, z_isK_tuple_dic, z_isK_tuple_non, z_isK_list_int, z_isK_list_bl, z_isK_list_str, z_isK_list_tup, z_isK_list_lst, z_isK_list_dic, z_isK_list_non, z_isK_dict_int, z_isK_dict_bl, z_isK_dict_str, z_isK_dict_tup, z_isK_dict_lst, z_isK_dict_dic, z_isK_dict_non, z_items_lst, z_items_tup]
      refine ⟨Nat.zero_le _, fun b hb => ?_⟩
      have ba : b ≠ a := fun e => by
        rw [e, MS.set_same] at hb
        cases hb
      have ab : a ≠ b := Ne.symm ba
      rw [MS.set_ne ba] at hb
      refine ⟨by omega, by omega, ?_⟩
      have tl2 : ∀ x y, ((T.set a x).set b y) t = some (.opq (opq2 JH)) := fun x y => by
        rw [MS.set_ne (fun e => by rw [← e] at hb; rw [hT _ _ hs] at hb; cases hb)]
        exact tl T hT hTa x
      refine forW_n (fun k ρ S' => ∃ row : List D, S' = (T.set a (.lst found)).set b (.lst row) ∧ (∃ x6 x7, ρ = [some (D.ref t), some (D.int n), some (D.int (1 + i0)), some (D.ref a), some (D.int (0 + (i : Int))), some (D.ref b), x6, x7]) ∧ row.length = k ∧ pus row = true ∧ ∀ g ∈ row, goalOk (i : Nat) (1 + i0) g = true) (fun _ _ _ _ => trivial) (fun k d ρ S' hd h N2 hN2 => ?hs) (fun ρ S' h => ?hd) ⟨[], rfl, ⟨_, _, rfl⟩, rfl, rfl, fun g hg => nomatch hg⟩
      case hd =>
        obtain ⟨row, rfl, ⟨x6, x7, rfl⟩, hk, pr, hg⟩ := h
        rw [rangeD_length] at hk
        have ra : rd ((T.set a (.lst found)).set b (.lst row)) (.ref a) = .lst found := by rw [rd_set_ne ab, z_rd_set]
        simp only [wSeq, wNext, wIfS, wAsg, wRet, wRetN, wDrop, wOp, wUn, wgSub, wBM, z_tyd_lst,  wCB, wCons, wNil, wVar, wVarF, wC, wgName, wTe, wAnd, wOr, DL.wNot, wAndV, wOrV, wNotV, wIf, wCh, wEq, wNe, wIsi, wIsi2, wCall, wNever, wTup, wLst, wSl, wNoPart, wPart, wYes, endD, startR, newL_f, newL_t, List.map, List.length, List.length_cons, List.length_nil, List.getElem?_cons_zero, List.getElem?_cons_succ, List.set_cons_zero, List.set_cons_succ, List.cons_append, List.nil_append, List.append_nil, List.replicate, Nat.reduceSub, Nat.reduceAdd, Option.some.injEq, ex_some_iff, ex_bl_iff, ex_int_iff, ex_tup_iff, exists_eq_left', true_and, and_true, rd_non, rd_bl, rd_int, rd_str, rd_tup, rd_lst, pl_int, pl_bl, pl_non, pl_tup, pl_lst, pl_str, isNon_int, isNon_bl, isNon_non, isNon_tup, isNon_str, isNon_ref, isNon_lst, okD_int, okD_bl, okD_non, eqD_int, eqD_bl, eqD_non, Bool.false_eq_true, if_true, if_false, ite_true, ite_false, Bool.not_true, Bool.not_false, D.int.injEq, D.tup.injEq, D.lst.injEq, D.ref.injEq, D.bl.injEq, MO.lst.injEq, List.cons.injEq, reduceCtorEq, false_and, and_false, exists_const, and_assoc, exists_and_left, exists_eq_left, wLc, wiSeq, wipeR, id, wiEnum, wiZip, wiRng1, wiRng2, wgTup, lenOk, wgCons, wgNil, wFor, wLstRg1, z_in_lst, z_in_tup, flat_int, flat_ints, inD_ints, wRev, wDic0, wExtend,  z_ix_0, z_ixt_0, z_ix_1, z_ixt_1, z_ix_2, z_ixt_2, z_ix_3, z_ixt_3, z_ix_4, z_ixt_4, z_ix_5, z_ixt_5, z_ix_6, z_ixt_6, z_ix_7, z_ixt_7, z_ix_8, z_ixt_8, z_add_int, z_add_tup, z_add_lst, z_add_str, z_mul_int, z_mul_tup, z_mul_lst, z_ib_int, z_ii_int, z_neg_int, z_len_lst, z_len_tup, z_len_str, z_abs_int, z_int_int, z_cii_int, z_tuple_lst, z_tuple_tup, z_list_lst, z_list_tup, z_cut_lst, z_cut_tup, z_rev_lst, z_rev_tup, z_isN_, z_notN_, z_isB_, z_notB_, z_w1_, z_w2_, z_in_lst, z_in_tup, z_isK_int_int, z_isK_int_bl, z_isK_int_str, z_isK_int_tup, z_isK_int_lst, z_isK_int_dic, z_isK_int_non, z_isK_bool_int, z_isK_bool_bl, z_isK_bool_str, z_isK_bool_tup, z_isK_bool_lst, z_isK_bool_dic, z_isK_bool_non, z_isK_str_int, z_isK_str_bl, z_isK_str_str, z_isK_str_tup, z_isK_str_lst, z_isK_str_dic, z_isK_str_non, z_isK_tuple_int, z_isK_tuple_bl, z_isK_tuple_str, z_isK_tuple_tup, z_isK_tuple_lst, z_isK_tuple_dic, z_isK_tuple_non, z_isK_list_int, z_isK_list_bl, z_isK_list_str, z_isK_list_tup, z_isK_list_lst, z_isK_list_dic, z_isK_list_non, z_isK_dict_int, z_isK_dict_bl, z_isK_dict_str, z_isK_dict_tup, z_isK_dict_lst, z_isK_dict_dic, z_isK_dict_non, z_items_lst, z_items_tup, z_rd_set, ra]
        refine ⟨a, found, _, rfl, rfl, by rw [MS.set_ne ab, MS.set_same], lt_sz (by omega), hN _ _ ⟨T.set b (.lst row), found ++ [.tup row], fun z m hz => Sub.set hb z m (hT z m hz), by rw [MS.set_ne ab]; exact hTa, by rw [MS.set_comm ba, MS.set_set, MS.set_comm ab, MS.set_comm ba], ⟨_, _, _, _, rfl⟩, by rw [List.length_append, hl]; rfl, pus_app pf (by simp [pus, pu, pr]), fun j hj => ?_⟩⟩
        by_cases hji : j < found.length
        · have e1 : (found ++ [D.tup row]).getD j .non = found.getD j .non := by
            rw [List.getD_eq_getElem?_getD, List.getD_eq_getElem?_getD, List.getElem?_append_left hji]
          rw [e1]
          exact hst j (by omega)
        · have ej : j = found.length := by omega
          have e1 : (found ++ [D.tup row]).getD j .non = .tup row := by
            rw [ej, List.getD_eq_getElem?_getD, List.getElem?_append_right (Nat.le_refl _), Nat.sub_self]
            rfl
          rw [e1]
          simp only [isState, Bool.and_eq_true, decide_eq_true_eq]
          refine ⟨by omega, List.all_eq_true.mpr fun g hg' => ?_⟩
          rw [ej, hl]
          exact hg g hg'
      case hs =>
        obtain ⟨row, rfl, ⟨x6, x7, rfl⟩, hk, pr, hg⟩ := h
        have hk2 : k < n.toNat := by
          have := (List.getElem?_eq_some_iff.mp hd).1
          rw [rangeD_length] at this
          exact this
        simp only [wSeq, wNext, wIfS, wAsg, wRet, wRetN, wDrop, wOp, wUn, wgSub, wBM, z_tyd_lst,  wCB, wCons, wNil, wVar, wVarF, wC, wgName, wTe, wAnd, wOr, DL.wNot, wAndV, wOrV, wNotV, wIf, wCh, wEq, wNe, wIsi, wIsi2, wCall, wNever, wTup, wLst, wSl, wNoPart, wPart, wYes, endD, startR, newL_f, newL_t, List.map, List.length, List.length_cons, List.length_nil, List.getElem?_cons_zero, List.getElem?_cons_succ, List.set_cons_zero, List.set_cons_succ, List.cons_append, List.nil_append, List.append_nil, List.replicate, Nat.reduceSub, Nat.reduceAdd, Option.some.injEq, ex_some_iff, ex_bl_iff, ex_int_iff, ex_tup_iff, exists_eq_left', true_and, and_true, rd_non, rd_bl, rd_int, rd_str, rd_tup, rd_lst, pl_int, pl_bl, pl_non, pl_tup, pl_lst, pl_str, isNon_int, isNon_bl, isNon_non, isNon_tup, isNon_str, isNon_ref, isNon_lst, okD_int, okD_bl, okD_non, eqD_int, eqD_bl, eqD_non, Bool.false_eq_true, if_true, if_false, ite_true, ite_false, Bool.not_true, Bool.not_false, D.int.injEq, D.tup.injEq, D.lst.injEq, D.ref.injEq, D.bl.injEq, MO.lst.injEq, List.cons.injEq, reduceCtorEq, false_and, and_false, exists_const, and_assoc, exists_and_left, exists_eq_left, wLc, wiSeq, wipeR, id, wiEnum, wiZip, wiRng1, wiRng2, wgTup, lenOk, wgCons, wgNil, wFor, wLstRg1, z_in_lst, z_in_tup, flat_int, flat_ints, inD_ints, wRev, wDic0, wExtend,  z_ix_0, z_ixt_0, z_ix_1, z_ixt_1, z_ix_2, z_ixt_2, z_ix_3, z_ixt_3, z_ix_4, z_ixt_4, z_ix_5, z_ixt_5, z_ix_6, z_ixt_6, z_ix_7, z_ixt_7, z_ix_8, z_ixt_8, z_add_int, z_add_tup, z_add_lst, z_add_str, z_mul_int, z_mul_tup, z_mul_lst, z_ib_int, z_ii_int, z_neg_int, z_len_lst, z_len_tup, z_len_str, z_abs_int, z_int_int, z_cii_int, z_tuple_lst, z_tuple_tup, z_list_lst, z_list_tup, z_cut_lst, z_cut_tup, z_rev_lst, z_rev_tup, z_isN_, z_notN_, z_isB_, z_notB_, z_w1_, z_w2_, z_in_lst, z_in_tup, z_isK_int_int, z_isK_int_bl, z_isK_int_str, z_isK_int_tup, z_isK_int_lst, z_isK_int_dic, z_isK_int_non, z_isK_bool_int, z_isK_bool_bl, z_isK_bool_str, z_isK_bool_tup, z_isK_bool_lst, z_isK_bool_dic, z_isK_bool_non, z_isK_str_int, z_isK_str_bl, z_isK_str_str, z_isK_str_tup, z_isK_str_lst, z_isK_str_dic, z_isK_str_non, z_isK_tuple_int, z_isK_tuple_bl, z_isK_tuple_str, z_isK_tuple_tup, z_isK_tuple_lst, z_isK_tuple_dic, z_isK_tuple_non, z_isK_list_int, z_isK_list_bl, z_isK_list_str, z_isK_list_tup, z_isK_list_lst, z_isK_list_dic, z_isK_list_non, z_isK_dict_int, z_isK_dict_bl, z_isK_dict_str, z_isK_dict_tup, z_isK_dict_lst, z_isK_dict_dic, z_isK_dict_non, z_items_lst, z_items_tup, drawSp]
        have hm : 0 < (if 1 + i0 - 1 - (0 + (i : Int)) < 3 then 1 + i0 - 1 - (0 + (i : Int)) else 3) := by split <;> omega
        have hm2 : (if 1 + i0 - 1 - (0 + (i : Int)) < 3 then 1 + i0 - 1 - (0 + (i : Int)) else 3) ≤ i0 - i := by split <;> omega
        generalize (if 1 + i0 - 1 - (0 + (i : Int)) < 3 then 1 + i0 - 1 - (0 + (i : Int)) else 3) = m at hm hm2 ⊢
        refine ⟨tl2 _ _, hm, by omega, fun u hu0 hu1 => ?_⟩
        simp only [wSeq, wNext, wIfS, wAsg, wRet, wRetN, wDrop, wOp, wUn, wgSub, wBM, z_tyd_lst,  wCB, wCons, wNil, wVar, wVarF, wC, wgName, wTe, wAnd, wOr, DL.wNot, wAndV, wOrV, wNotV, wIf, wCh, wEq, wNe, wIsi, wIsi2, wCall, wNever, wTup, wLst, wSl, wNoPart, wPart, wYes, endD, startR, newL_f, newL_t, List.map, List.length, List.length_cons, List.length_nil, List.getElem?_cons_zero, List.getElem?_cons_succ, List.set_cons_zero, List.set_cons_succ, List.cons_append, List.nil_append, List.append_nil, List.replicate, Nat.reduceSub, Nat.reduceAdd, Option.some.injEq, ex_some_iff, ex_bl_iff, ex_int_iff, ex_tup_iff, exists_eq_left', true_and, and_true, rd_non, rd_bl, rd_int, rd_str, rd_tup, rd_lst, pl_int, pl_bl, pl_non, pl_tup, pl_lst, pl_str, isNon_int, isNon_bl, isNon_non, isNon_tup, isNon_str, isNon_ref, isNon_lst, okD_int, okD_bl, okD_non, eqD_int, eqD_bl, eqD_non, Bool.false_eq_true, if_true, if_false, ite_true, ite_false, Bool.not_true, Bool.not_false, D.int.injEq, D.tup.injEq, D.lst.injEq, D.ref.injEq, D.bl.injEq, MO.lst.injEq, List.cons.injEq, reduceCtorEq, false_and, and_false, exists_const, and_assoc, exists_and_left, exists_eq_left, wLc, wiSeq, wipeR, id, wiEnum, wiZip, wiRng1, wiRng2, wgTup, lenOk, wgCons, wgNil, wFor, wLstRg1, z_in_lst, z_in_tup, flat_int, flat_ints, inD_ints, wRev, wDic0, wExtend,  z_ix_0, z_ixt_0, z_ix_1, z_ixt_1, z_ix_2, z_ixt_2, z_ix_3, z_ixt_3, z_ix_4, z_ixt_4, z_ix_5, z_ixt_5, z_ix_6, z_ixt_6, z_ix_7, z_ixt_7, z_ix_8, z_ixt_8, z_add_int, z_add_tup, z_add_lst, z_add_str, z_mul_int, z_mul_tup, z_mul_lst, z_ib_int, z_ii_int, z_neg_int, z_len_lst, z_len_tup, z_len_str, z_abs_int, z_int_int, z_cii_int, z_tuple_lst, z_tuple_tup, z_list_lst, z_list_tup, z_cut_lst, z_cut_tup, z_rev_lst, z_rev_tup, z_isN_, z_notN_, z_isB_, z_notB_, z_w1_, z_w2_, z_in_lst, z_in_tup, z_isK_int_int, z_isK_int_bl, z_isK_int_str, z_isK_int_tup, z_isK_int_lst, z_isK_int_dic, z_isK_int_non, z_isK_bool_int, z_isK_bool_bl, z_isK_bool_str, z_isK_bool_tup, z_isK_bool_lst, z_isK_bool_dic, z_isK_bool_non, z_isK_str_int, z_isK_str_bl, z_isK_str_str, z_isK_str_tup, z_isK_str_lst, z_isK_str_dic, z_isK_str_non, z_isK_tuple_int, z_isK_tuple_bl, z_isK_tuple_str, z_isK_tuple_tup, z_isK_tuple_lst, z_isK_tuple_dic, z_isK_tuple_non, z_isK_list_int, z_isK_list_bl, z_isK_list_str, z_isK_list_tup, z_isK_list_lst, z_isK_list_dic, z_isK_list_non, z_isK_dict_int, z_isK_dict_bl, z_isK_dict_str, z_isK_dict_tup, z_isK_dict_lst, z_isK_dict_dic, z_isK_dict_non, z_items_lst, z_items_tup, z_rd_set]
        refine ⟨tl2 _ _, by omega, by omega, fun v hv0 hv1 => ?_⟩
        have fin : ∀ x x6 x7, pu x = true → goalOk (i : Nat) (1 + i0) x = true → wAppend (D.ref b) [x] ((T.set a (.lst found)).set b (.lst row)) fun d S1 => N2 [some (D.ref t), some (D.int n), some (D.int (1 + i0)), some (D.ref a), some (D.int (0 + (i : Int))), some (D.ref b), x6, x7] S1 := fun x x6 x7 h1 h2 => by
          refine ⟨b, row, x, rfl, rfl, MS.set_same, lt_sz (by omega), ?_⟩
          rw [MS.set_set]
          refine hN2 _ _ ⟨row ++ [x], rfl, ⟨_, _, rfl⟩, by rw [List.length_append, hk]; rfl, pus_app pr (by simp [pus, h1]), fun g hg' => ?_⟩
          rcases List.mem_append.mp hg' with h | h
          · exact hg g h
          · rw [List.mem_singleton.mp h]
            exact h2
        refine ite_bl (fun h => ?_) (fun h => ?_)
        · refine fin _ _ _ rfl ?_
          simp only [goalOk, isNon, isWithin, Bool.false_or, Bool.and_eq_true, decide_eq_true_eq]
          omega
        · exact fin _ _ _ rfl rfl)
theorem D__law_screen (A : Al K mg) : Def P w K mg base CX0 2 "_law_screen" ["hand", "count"] sp__law_screen := by
  obtain ⟨f, fd, Fu, hm, hb⟩ := fu__law_screen A
  exact ⟨f, fd, O__law_screen A Fu, hm, Fu.kp, hb⟩
end
end W38
namespace W38
open PySem PySem.Spec PyProof.Rows L2 DL
theorem sc__law_is_screen : FnScope ["count", "thing", "number", "row", "to"] ["count", "thing"] (defScope s__law_is_screen) := ⟨rfl, rfl, rfl, by decide +kernel, rfl, by decide +kernel, by decide +kernel⟩
theorem ar__law_is_screen : ∀ ds S Q E, sp__law_is_screen ds S Q E → ds.length = 2 := by
  rintro ds S Q E h
  simp only [sp__law_is_screen] at h
  obtain ⟨_, h⟩ := h
  repeat (first | (obtain ⟨rfl, _⟩ := h; rfl) | (obtain ⟨_, h⟩ := h))
section
variable {P : Program} {w : World} {K : PySem.W.Frag} {mg : Str → Option Value} {base : Heap}
theorem O__law_is_screen (A : Al K mg) {f : Addr} {fd : FuncData} (Fu : FunD K "_law_is_screen" "_law_is_screen" (defArgs s__law_is_screen) (defBody s__law_is_screen) (defScope s__law_is_screen) [] [] f fd) : FnOk P w K mg base CX0 2 f fd ["count", "thing"] (spD K sp__law_is_screen) := by
  refine fn_d Fu sc__law_is_screen ar__law_is_screen (fun cdv A0 outer s0 H0 E0' hr => ⟨_, _,
      (db_cons (ds_if (dt_w (dw_or (dt_not (dt_val (de_isiK K .tuple rfl A.b_isinstance (de_var 1) A.b_tuple))) (dw_or1 (dt_not (dt_ch op_le op_le ro_IB ro_IB de_int (de_cb (call_lenK K) roc_len rfl A.b_len (by decide +kernel) (da_cons (de_var 1) da_nil)) de_int)))))
        (db_one (ds_ret de_bl))
        db_nil)
      (db_cons (ds_for (vs := [2, 3]) PassesOwn.never rfl (di_enumK K rfl A.b_enumerate (da_cons (de_var 1) da_nil)) (dg_tupK K (n := 2) rfl (dgs_cons (dg_name (vs := [2, 3]) 2 (by decide) sc__law_is_screen.nd) (dgs_cons (dg_name (vs := [2, 3]) 3 (by decide) sc__law_is_screen.nd) dgs_nil)))
        (db_cons (ds_if (dt_w (dw_or (dt_not (dt_val (de_isiK K .tuple rfl A.b_isinstance (de_var 3) A.b_tuple))) (dw_or1 (dt_cmp (op_neK K hr.units) ro_ne (de_cb (call_lenK K) roc_len rfl A.b_len (by decide +kernel) (da_cons (de_var 3) da_nil)) (de_var 0) (nomark _)))))
          (db_one (ds_ret de_bl))
          db_nil)
        (db_one (ds_if (dt_not (dt_val (de_cb (cr_allK K rfl) roc_all rfl A.b_all (by decide +kernel) (da_cons (de_lc false [("to", 4)] rfl sc__law_is_screen.nd (di_seqK K (de_var 3)) (blkOk_by (by kernel_rfl)) (fun _ _ _ _ _ => (dg_name (vs := [4]) 4 (by decide) sc__law_is_screen.nd)) (fun _ _ _ _ _ => dts_nil) (fun _ _ _ _ _ => (de_or (de_cmp op_isN ro_isN (de_var 4) de_non (nomark _)) (de_one (de_callK (D__law_int A) (hr.mono (by decide)) pass0 rfl (da_cons (de_var 4) (da_cons (de_op (op_addK K) (ro_add false) (de_var 2) de_int) (da_cons (de_op op_sub ro_I0 (de_cb (call_lenK K) roc_len rfl A.b_len (by decide +kernel) (da_cons (de_var 1) da_nil)) de_int) da_nil)))))))) da_nil))))
          (db_one (ds_ret de_bl))
          db_nil))))
      (db_one (ds_ret de_bl)))),
      ?_⟩)
  all_goals (
    rintro ds S Q Ed ⟨n, x, rfl, hn, px, q⟩
    simp only [wSeq, wNext, wIfS, wAsg, wRet, wRetN, wDrop, wOp, wUn, wgSub, wBM, z_tyd_lst,  wCB, wCons, wNil, wVar, wVarF, wC, wgName, wTe, wAnd, wOr, DL.wNot, wAndV, wOrV, wNotV, wIf, wCh, wEq, wNe, wIsi, wIsi2, wCall, wNever, wTup, wLst, wSl, wNoPart, wPart, wYes, endD, startR, newL_f, newL_t, List.map, List.length, List.length_cons, List.length_nil, List.getElem?_cons_zero, List.getElem?_cons_succ, List.set_cons_zero, List.set_cons_succ, List.cons_append, List.nil_append, List.append_nil, List.replicate, Nat.reduceSub, Nat.reduceAdd, Option.some.injEq, ex_some_iff, ex_bl_iff, ex_int_iff, ex_tup_iff, exists_eq_left', true_and, and_true, rd_non, rd_bl, rd_int, rd_str, rd_tup, rd_lst, pl_int, pl_bl, pl_non, pl_tup, pl_lst, pl_str, isNon_int, isNon_bl, isNon_non, isNon_tup, isNon_str, isNon_ref, isNon_lst, okD_int, okD_bl, okD_non, eqD_int, eqD_bl, eqD_non, Bool.false_eq_true, if_true, if_false, ite_true, ite_false, Bool.not_true, Bool.not_false, D.int.injEq, D.tup.injEq, D.lst.injEq, D.ref.injEq, D.bl.injEq, MO.lst.injEq, List.cons.injEq, reduceCtorEq, false_and, and_false, exists_const, and_assoc, exists_and_left, exists_eq_left, wLc, wiSeq, wipeR, id, wiEnum, wiZip, wiRng1, wiRng2, wgTup, lenOk, wgCons, wgNil, wFor, wLstRg1, z_in_lst, z_in_tup, flat_int, flat_ints, inD_ints, wRev, wDic0, wExtend,  z_ix_0, z_ixt_0, z_ix_1, z_ixt_1, z_ix_2, z_ixt_2, z_ix_3, z_ixt_3, z_ix_4, z_ixt_4, z_ix_5, z_ixt_5, z_ix_6, z_ixt_6, z_ix_7, z_ixt_7, z_ix_8, z_ixt_8, z_add_int, z_add_tup, z_add_lst, z_add_str, z_mul_int, z_mul_tup, z_mul_lst, z_ib_int, z_ii_int, z_neg_int, z_len_lst, z_len_tup, z_len_str, z_abs_int, z_int_int, z_cii_int, z_tuple_lst, z_tuple_tup, z_list_lst, z_list_tup, z_cut_lst, z_cut_tup, z_rev_lst, z_rev_tup, z_isN_, z_notN_, z_isB_, z_notB_, z_w1_, z_w2_, z_in_lst, z_in_tup, z_isK_int_int, z_isK_int_bl, z_isK_int_str, z_isK_int_tup, z_isK_int_lst, z_isK_int_dic, z_isK_int_non, z_isK_bool_int, z_isK_bool_bl, z_isK_bool_str, z_isK_bool_tup, z_isK_bool_lst, z_isK_bool_dic, z_isK_bool_non, z_isK_str_int, z_isK_str_bl, z_isK_str_str, z_isK_str_tup, z_isK_str_lst, z_isK_str_dic, z_isK_str_non, z_isK_tuple_int, z_isK_tuple_bl, z_isK_tuple_str, z_isK_tuple_tup, z_isK_tuple_lst, z_isK_tuple_dic, z_isK_tuple_non, z_isK_list_int, z_isK_list_bl, z_isK_list_str, z_isK_list_tup, z_isK_list_lst, z_isK_list_dic, z_isK_list_non, z_isK_dict_int, z_isK_dict_bl, z_isK_dict_str, z_isK_dict_tup, z_isK_dict_lst, z_isK_dict_dic, z_isK_dict_non, z_items_lst, z_items_tup, rd_pu px, pl_of_pu px]
    cases x <;> first | exact outK.same q | skip
    rename_i rows
    have pr : pus rows = true := by simpa [pu] using px
    simp only [wSeq, wNext, wIfS, wAsg, wRet, wRetN, wDrop, wOp, wUn, wgSub, wBM, z_tyd_lst,  wCB, wCons, wNil, wVar, wVarF, wC, wgName, wTe, wAnd, wOr, DL.wNot, wAndV, wOrV, wNotV, wIf, wCh, wEq, wNe, wIsi, wIsi2, wCall, wNever, wTup, wLst, wSl, wNoPart, wPart, wYes, endD, startR, newL_f, newL_t, List.map, List.length, List.length_cons, List.length_nil, List.getElem?_cons_zero, List.getElem?_cons_succ, List.set_cons_zero, List.set_cons_succ, List.cons_append, List.nil_append, List.append_nil, List.replicate, Nat.reduceSub, Nat.reduceAdd, Option.some.injEq, ex_some_iff, ex_bl_iff, ex_int_iff, ex_tup_iff, exists_eq_left', true_and, and_true, rd_non, rd_bl, rd_int, rd_str, rd_tup, rd_lst, pl_int, pl_bl, pl_non, pl_tup, pl_lst, pl_str, isNon_int, isNon_bl, isNon_non, isNon_tup, isNon_str, isNon_ref, isNon_lst, okD_int, okD_bl, okD_non, eqD_int, eqD_bl, eqD_non, Bool.false_eq_true, if_true, if_false, ite_true, ite_false, Bool.not_true, Bool.not_false, D.int.injEq, D.tup.injEq, D.lst.injEq, D.ref.injEq, D.bl.injEq, MO.lst.injEq, List.cons.injEq, reduceCtorEq, false_and, and_false, exists_const, and_assoc, exists_and_left, exists_eq_left, wLc, wiSeq, wipeR, id, wiEnum, wiZip, wiRng1, wiRng2, wgTup, lenOk, wgCons, wgNil, wFor, wLstRg1, z_in_lst, z_in_tup, flat_int, flat_ints, inD_ints, wRev, wDic0, wExtend,  z_ix_0, z_ixt_0, z_ix_1, z_ixt_1, z_ix_2, z_ixt_2, z_ix_3, z_ixt_3, z_ix_4, z_ixt_4, z_ix_5, z_ixt_5, z_ix_6, z_ixt_6, z_ix_7, z_ixt_7, z_ix_8, z_ixt_8, z_add_int, z_add_tup, z_add_lst, z_add_str, z_mul_int, z_mul_tup, z_mul_lst, z_ib_int, z_ii_int, z_neg_int, z_len_lst, z_len_tup, z_len_str, z_abs_int, z_int_int, z_cii_int, z_tuple_lst, z_tuple_tup, z_list_lst, z_list_tup, z_cut_lst, z_cut_tup, z_rev_lst, z_rev_tup, z_isN_, z_notN_, z_isB_, z_notB_, z_w1_, z_w2_, z_in_lst, z_in_tup, z_isK_int_int, z_isK_int_bl, z_isK_int_str, z_isK_int_tup, z_isK_int_lst, z_isK_int_dic, z_isK_int_non, z_isK_bool_int, z_isK_bool_bl, z_isK_bool_str, z_isK_bool_tup, z_isK_bool_lst, z_isK_bool_dic, z_isK_bool_non, z_isK_str_int, z_isK_str_bl, z_isK_str_str, z_isK_str_tup, z_isK_str_lst, z_isK_str_dic, z_isK_str_non, z_isK_tuple_int, z_isK_tuple_bl, z_isK_tuple_str, z_isK_tuple_tup, z_isK_tuple_lst, z_isK_tuple_dic, z_isK_tuple_non, z_isK_list_int, z_isK_list_bl, z_isK_list_str, z_isK_list_tup, z_isK_list_lst, z_isK_list_dic, z_isK_list_non, z_isK_dict_int, z_isK_dict_bl, z_isK_dict_str, z_isK_dict_tup, z_isK_dict_lst, z_isK_dict_dic, z_isK_dict_non, z_items_lst, z_items_tup]
    have bad : (¬ (1 ≤ rows.length ∧ rows.length ≤ 3000)) → outK Q (.bl false) S := fun h => by
      have : isScreenOf n (.tup rows) = false := by
        simp only [isScreenOf, Bool.and_eq_false_iff, decide_eq_false_iff_not]
        omega
      rw [this] at q
      exact outK.same q
    refine ite_bl (fun h1 => ?_) (fun h1 => bad ?_)
    rotate_left
    · have := of_decide_eq_false h1
      omega
    refine ite_bl (fun h2 => bad ?_) (fun h2 => ?_)
    · simp at h2
      omega
    have hz : 1 ≤ rows.length ∧ rows.length ≤ 3000 := by
      simp at h1 h2
      omega
    have no : ∀ i, i < rows.length → isState n (i : Nat) (rows.length : Nat) (rows.getD i .non) = false → outK Q (.bl false) S := fun i hi e => by
      have : isScreenOf n (.tup rows) = false := by
        simp only [isScreenOf]
        rw [Bool.and_eq_false_iff]
        refine .inr (List.all_eq_false.mpr ⟨i, List.mem_range.mpr hi, ?_⟩)
        rw [e]
        exact Bool.false_ne_true
      rw [this] at q
      exact outK.same q
    refine forW_n (fun i ρ S' => S' = S ∧ (∃ x y z, ρ = [some (D.int n), some (D.tup rows), x, y, z]) ∧ ∀ j, j < i → isState n (j : Nat) (rows.length : Nat) (rows.getD j .non) = true) (fun _ _ _ _ => trivial) (fun i d ρ S' hd h N hN => ?hs) (fun ρ S' h => ?hd) ⟨rfl, ⟨none, none, none, rfl⟩, fun j hj => absurd hj (Nat.not_lt_zero _)⟩
    case hd =>
      obtain ⟨rfl, ⟨x, y, z, rfl⟩, h⟩ := h
      rw [enumD_length] at h
      have : isScreenOf n (.tup rows) = true := by
        simp only [isScreenOf, decide_eq_true hz.1, decide_eq_true hz.2, Bool.true_and]
        exact List.all_eq_true.mpr fun i hi => h i (List.mem_range.mp hi)
      rw [this] at q
      simp only [wSeq, wNext, wIfS, wAsg, wRet, wRetN, wDrop, wOp, wUn, wgSub, wBM, z_tyd_lst,  wCB, wCons, wNil, wVar, wVarF, wC, wgName, wTe, wAnd, wOr, DL.wNot, wAndV, wOrV, wNotV, wIf, wCh, wEq, wNe, wIsi, wIsi2, wCall, wNever, wTup, wLst, wSl, wNoPart, wPart, wYes, endD, startR, newL_f, newL_t, List.map, List.length, List.length_cons, List.length_nil, List.getElem?_cons_zero, List.getElem?_cons_succ, List.set_cons_zero, List.set_cons_succ, List.cons_append, List.nil_append, List.append_nil, List.replicate, Nat.reduceSub, Nat.reduceAdd, Option.some.injEq, ex_some_iff, ex_bl_iff, ex_int_iff, ex_tup_iff, exists_eq_left', true_and, and_true, rd_non, rd_bl, rd_int, rd_str, rd_tup, rd_lst, pl_int, pl_bl, pl_non, pl_tup, pl_lst, pl_str, isNon_int, isNon_bl, isNon_non, isNon_tup, isNon_str, isNon_ref, isNon_lst, okD_int, okD_bl, okD_non, eqD_int, eqD_bl, eqD_non, Bool.false_eq_true, if_true, if_false, ite_true, ite_false, Bool.not_true, Bool.not_false, D.int.injEq, D.tup.injEq, D.lst.injEq, D.ref.injEq, D.bl.injEq, MO.lst.injEq, List.cons.injEq, reduceCtorEq, false_and, and_false, exists_const, and_assoc, exists_and_left, exists_eq_left, wLc, wiSeq, wipeR, id, wiEnum, wiZip, wiRng1, wiRng2, wgTup, lenOk, wgCons, wgNil, wFor, wLstRg1, z_in_lst, z_in_tup, flat_int, flat_ints, inD_ints, wRev, wDic0, wExtend,  z_ix_0, z_ixt_0, z_ix_1, z_ixt_1, z_ix_2, z_ixt_2, z_ix_3, z_ixt_3, z_ix_4, z_ixt_4, z_ix_5, z_ixt_5, z_ix_6, z_ixt_6, z_ix_7, z_ixt_7, z_ix_8, z_ixt_8, z_add_int, z_add_tup, z_add_lst, z_add_str, z_mul_int, z_mul_tup, z_mul_lst, z_ib_int, z_ii_int, z_neg_int, z_len_lst, z_len_tup, z_len_str, z_abs_int, z_int_int, z_cii_int, z_tuple_lst, z_tuple_tup, z_list_lst, z_list_tup, z_cut_lst, z_cut_tup, z_rev_lst, z_rev_tup, z_isN_, z_notN_, z_isB_, z_notB_, z_w1_, z_w2_, z_in_lst, z_in_tup, z_isK_int_int, z_isK_int_bl, z_isK_int_str, z_isK_int_tup, z_isK_int_lst, z_isK_int_dic, z_isK_int_non, z_isK_bool_int, z_isK_bool_bl, z_isK_bool_str, z_isK_bool_tup, z_isK_bool_lst, z_isK_bool_dic, z_isK_bool_non, z_isK_str_int, z_isK_str_bl, z_isK_str_str, z_isK_str_tup, z_isK_str_lst, z_isK_str_dic, z_isK_str_non, z_isK_tuple_int, z_isK_tuple_bl, z_isK_tuple_str, z_isK_tuple_tup, z_isK_tuple_lst, z_isK_tuple_dic, z_isK_tuple_non, z_isK_list_int, z_isK_list_bl, z_isK_list_str, z_isK_list_tup, z_isK_list_lst, z_isK_list_dic, z_isK_list_non, z_isK_dict_int, z_isK_dict_bl, z_isK_dict_str, z_isK_dict_tup, z_isK_dict_lst, z_isK_dict_dic, z_isK_dict_non, z_items_lst, z_items_tup]
      exact outK.same q
    case hs =>
      obtain ⟨rfl, ⟨x, y, z, rfl⟩, h⟩ := h
      have hi : i < rows.length := by
        have := (List.getElem?_eq_some_iff.mp hd).1
        rw [enumD_length] at this
        exact this
      have e : d = .tup [.int (i : Nat), rows.getD i .non] := by
        have := enumD_get (List.getElem?_eq_getElem hi)
        rw [this] at hd
        cases hd
        rw [List.getD_eq_getElem?_getD, List.getElem?_eq_getElem hi]
        rfl
      subst e
      have pd : pu (rows.getD i .non) = true := pus_getD pr i
      have no' := no i hi
      have hN' : isState n (i : Nat) (rows.length : Nat) (rows.getD i .non) = true → ∀ x y z, N [some (D.int n), some (D.tup rows), x, y, z] S' := fun e x y z => hN _ _ ⟨rfl, ⟨x, y, z, rfl⟩, fun j hj => by
        by_cases hji : j = i
        · rw [hji]
          exact e
        · exact h j (by omega)⟩
      generalize rows.getD i .non = row at pd no' hN' ⊢
      simp only [wSeq, wNext, wIfS, wAsg, wRet, wRetN, wDrop, wOp, wUn, wgSub, wBM, z_tyd_lst,  wCB, wCons, wNil, wVar, wVarF, wC, wgName, wTe, wAnd, wOr, DL.wNot, wAndV, wOrV, wNotV, wIf, wCh, wEq, wNe, wIsi, wIsi2, wCall, wNever, wTup, wLst, wSl, wNoPart, wPart, wYes, endD, startR, newL_f, newL_t, List.map, List.length, List.length_cons, List.length_nil, List.getElem?_cons_zero, List.getElem?_cons_succ, List.set_cons_zero, List.set_cons_succ, List.cons_append, List.nil_append, List.append_nil, List.replicate, Nat.reduceSub, Nat.reduceAdd, Option.some.injEq, ex_some_iff, ex_bl_iff, ex_int_iff, ex_tup_iff, exists_eq_left', true_and, and_true, rd_non, rd_bl, rd_int, rd_str, rd_tup, rd_lst, pl_int, pl_bl, pl_non, pl_tup, pl_lst, pl_str, isNon_int, isNon_bl, isNon_non, isNon_tup, isNon_str, isNon_ref, isNon_lst, okD_int, okD_bl, okD_non, eqD_int, eqD_bl, eqD_non, Bool.false_eq_true, if_true, if_false, ite_true, ite_false, Bool.not_true, Bool.not_false, D.int.injEq, D.tup.injEq, D.lst.injEq, D.ref.injEq, D.bl.injEq, MO.lst.injEq, List.cons.injEq, reduceCtorEq, false_and, and_false, exists_const, and_assoc, exists_and_left, exists_eq_left, wLc, wiSeq, wipeR, id, wiEnum, wiZip, wiRng1, wiRng2, wgTup, lenOk, wgCons, wgNil, wFor, wLstRg1, z_in_lst, z_in_tup, flat_int, flat_ints, inD_ints, wRev, wDic0, wExtend,  z_ix_0, z_ixt_0, z_ix_1, z_ixt_1, z_ix_2, z_ixt_2, z_ix_3, z_ixt_3, z_ix_4, z_ixt_4, z_ix_5, z_ixt_5, z_ix_6, z_ixt_6, z_ix_7, z_ixt_7, z_ix_8, z_ixt_8, z_add_int, z_add_tup, z_add_lst, z_add_str, z_mul_int, z_mul_tup, z_mul_lst, z_ib_int, z_ii_int, z_neg_int, z_len_lst, z_len_tup, z_len_str, z_abs_int, z_int_int, z_cii_int, z_tuple_lst, z_tuple_tup, z_list_lst, z_list_tup, z_cut_lst, z_cut_tup, z_rev_lst, z_rev_tup, z_isN_, z_notN_, z_isB_, z_notB_, z_w1_, z_w2_, z_in_lst, z_in_tup, z_isK_int_int, z_isK_int_bl, z_isK_int_str, z_isK_int_tup, z_isK_int_lst, z_isK_int_dic, z_isK_int_non, z_isK_bool_int, z_isK_bool_bl, z_isK_bool_str, z_isK_bool_tup, z_isK_bool_lst, z_isK_bool_dic, z_isK_bool_non, z_isK_str_int, z_isK_str_bl, z_isK_str_str, z_isK_str_tup, z_isK_str_lst, z_isK_str_dic, z_isK_str_non, z_isK_tuple_int, z_isK_tuple_bl, z_isK_tuple_str, z_isK_tuple_tup, z_isK_tuple_lst, z_isK_tuple_dic, z_isK_tuple_non, z_isK_list_int, z_isK_list_bl, z_isK_list_str, z_isK_list_tup, z_isK_list_lst, z_isK_list_dic, z_isK_list_non, z_isK_dict_int, z_isK_dict_bl, z_isK_dict_str, z_isK_dict_tup, z_isK_dict_lst, z_isK_dict_dic, z_isK_dict_non, z_items_lst, z_items_tup, rd_pu pd, pl_of_pu pd]
      cases row <;> first | exact no' rfl | skip
      rename_i gs
      simp only [wSeq, wNext, wIfS, wAsg, wRet, wRetN, wDrop, wOp, wUn, wgSub, wBM, z_tyd_lst,  wCB, wCons, wNil, wVar, wVarF, wC, wgName, wTe, wAnd, wOr, DL.wNot, wAndV, wOrV, wNotV, wIf, wCh, wEq, wNe, wIsi, wIsi2, wCall, wNever, wTup, wLst, wSl, wNoPart, wPart, wYes, endD, startR, newL_f, newL_t, List.map, List.length, List.length_cons, List.length_nil, List.getElem?_cons_zero, List.getElem?_cons_succ, List.set_cons_zero, List.set_cons_succ, List.cons_append, List.nil_append, List.append_nil, List.replicate, Nat.reduceSub, Nat.reduceAdd, Option.some.injEq, ex_some_iff, ex_bl_iff, ex_int_iff, ex_tup_iff, exists_eq_left', true_and, and_true, rd_non, rd_bl, rd_int, rd_str, rd_tup, rd_lst, pl_int, pl_bl, pl_non, pl_tup, pl_lst, pl_str, isNon_int, isNon_bl, isNon_non, isNon_tup, isNon_str, isNon_ref, isNon_lst, okD_int, okD_bl, okD_non, eqD_int, eqD_bl, eqD_non, Bool.false_eq_true, if_true, if_false, ite_true, ite_false, Bool.not_true, Bool.not_false, D.int.injEq, D.tup.injEq, D.lst.injEq, D.ref.injEq, D.bl.injEq, MO.lst.injEq, List.cons.injEq, reduceCtorEq, false_and, and_false, exists_const, and_assoc, exists_and_left, exists_eq_left, wLc, wiSeq, wipeR, id, wiEnum, wiZip, wiRng1, wiRng2, wgTup, lenOk, wgCons, wgNil, wFor, wLstRg1, z_in_lst, z_in_tup, flat_int, flat_ints, inD_ints, wRev, wDic0, wExtend,  z_ix_0, z_ixt_0, z_ix_1, z_ixt_1, z_ix_2, z_ixt_2, z_ix_3, z_ixt_3, z_ix_4, z_ixt_4, z_ix_5, z_ixt_5, z_ix_6, z_ixt_6, z_ix_7, z_ixt_7, z_ix_8, z_ixt_8, z_add_int, z_add_tup, z_add_lst, z_add_str, z_mul_int, z_mul_tup, z_mul_lst, z_ib_int, z_ii_int, z_neg_int, z_len_lst, z_len_tup, z_len_str, z_abs_int, z_int_int, z_cii_int, z_tuple_lst, z_tuple_tup, z_list_lst, z_list_tup, z_cut_lst, z_cut_tup, z_rev_lst, z_rev_tup, z_isN_, z_notN_, z_isB_, z_notB_, z_w1_, z_w2_, z_in_lst, z_in_tup, z_isK_int_int, z_isK_int_bl, z_isK_int_str, z_isK_int_tup, z_isK_int_lst, z_isK_int_dic, z_isK_int_non, z_isK_bool_int, z_isK_bool_bl, z_isK_bool_str, z_isK_bool_tup, z_isK_bool_lst, z_isK_bool_dic, z_isK_bool_non, z_isK_str_int, z_isK_str_bl, z_isK_str_str, z_isK_str_tup, z_isK_str_lst, z_isK_str_dic, z_isK_str_non, z_isK_tuple_int, z_isK_tuple_bl, z_isK_tuple_str, z_isK_tuple_tup, z_isK_tuple_lst, z_isK_tuple_dic, z_isK_tuple_non, z_isK_list_int, z_isK_list_bl, z_isK_list_str, z_isK_list_tup, z_isK_list_lst, z_isK_list_dic, z_isK_list_non, z_isK_dict_int, z_isK_dict_bl, z_isK_dict_str, z_isK_dict_tup, z_isK_dict_lst, z_isK_dict_dic, z_isK_dict_non, z_items_lst, z_items_tup]
      refine ite_bl (fun h3 => no' ?_) (fun h3 => ?_)
      · simp at h3
        simp only [isState, decide_eq_false h3, Bool.false_and]
      have hl : (gs.length : Int) = n := by simpa using h3
      refine compL_map (fun g => D.bl (goalOk i rows.length g)) noG_any (le_sz (by omega)) (fun d hd S' sub N hN => ?_) ?_
      · have pd : pu d = true := pus_mem (by simpa [pu] using pd) hd
        simp only [wSeq, wNext, wIfS, wAsg, wRet, wRetN, wDrop, wOp, wUn, wgSub, wBM, z_tyd_lst,  wCB, wCons, wNil, wVar, wVarF, wC, wgName, wTe, wAnd, wOr, DL.wNot, wAndV, wOrV, wNotV, wIf, wCh, wEq, wNe, wIsi, wIsi2, wCall, wNever, wTup, wLst, wSl, wNoPart, wPart, wYes, endD, startR, newL_f, newL_t, List.map, List.length, List.length_cons, List.length_nil, List.getElem?_cons_zero, List.getElem?_cons_succ, List.set_cons_zero, List.set_cons_succ, List.cons_append, List.nil_append, List.append_nil, List.replicate, Nat.reduceSub, Nat.reduceAdd, Option.some.injEq, ex_some_iff, ex_bl_iff, ex_int_iff, ex_tup_iff, exists_eq_left', true_and, and_true, rd_non, rd_bl, rd_int, rd_str, rd_tup, rd_lst, pl_int, pl_bl, pl_non, pl_tup, pl_lst, pl_str, isNon_int, isNon_bl, isNon_non, isNon_tup, isNon_str, isNon_ref, isNon_lst, okD_int, okD_bl, okD_non, eqD_int, eqD_bl, eqD_non, Bool.false_eq_true, if_true, if_false, ite_true, ite_false, Bool.not_true, Bool.not_false, D.int.injEq, D.tup.injEq, D.lst.injEq, D.ref.injEq, D.bl.injEq, MO.lst.injEq, List.cons.injEq, reduceCtorEq, false_and, and_false, exists_const, and_assoc, exists_and_left, exists_eq_left, wLc, wiSeq, wipeR, id, wiEnum, wiZip, wiRng1, wiRng2, wgTup, lenOk, wgCons, wgNil, wFor, wLstRg1, z_in_lst, z_in_tup, flat_int, flat_ints, inD_ints, wRev, wDic0, wExtend,  z_ix_0, z_ixt_0, z_ix_1, z_ixt_1, z_ix_2, z_ixt_2, z_ix_3, z_ixt_3, z_ix_4, z_ixt_4, z_ix_5, z_ixt_5, z_ix_6, z_ixt_6, z_ix_7, z_ixt_7, z_ix_8, z_ixt_8, z_add_int, z_add_tup, z_add_lst, z_add_str, z_mul_int, z_mul_tup, z_mul_lst, z_ib_int, z_ii_int, z_neg_int, z_len_lst, z_len_tup, z_len_str, z_abs_int, z_int_int, z_cii_int, z_tuple_lst, z_tuple_tup, z_list_lst, z_list_tup, z_cut_lst, z_cut_tup, z_rev_lst, z_rev_tup, z_isN_, z_notN_, z_isB_, z_notB_, z_w1_, z_w2_, z_in_lst, z_in_tup, z_isK_int_int, z_isK_int_bl, z_isK_int_str, z_isK_int_tup, z_isK_int_lst, z_isK_int_dic, z_isK_int_non, z_isK_bool_int, z_isK_bool_bl, z_isK_bool_str, z_isK_bool_tup, z_isK_bool_lst, z_isK_bool_dic, z_isK_bool_non, z_isK_str_int, z_isK_str_bl, z_isK_str_str, z_isK_str_tup, z_isK_str_lst, z_isK_str_dic, z_isK_str_non, z_isK_tuple_int, z_isK_tuple_bl, z_isK_tuple_str, z_isK_tuple_tup, z_isK_tuple_lst, z_isK_tuple_dic, z_isK_tuple_non, z_isK_list_int, z_isK_list_bl, z_isK_list_str, z_isK_list_tup, z_isK_list_lst, z_isK_list_dic, z_isK_list_non, z_isK_dict_int, z_isK_dict_bl, z_isK_dict_str, z_isK_dict_tup, z_isK_dict_lst, z_isK_dict_dic, z_isK_dict_non, z_items_lst, z_items_tup, sp__law_int, rd_pu pd, pl_of_pu pd]
        refine ite_bl (fun h => ?_) (fun h => ?_) <;> simp only [goalOk, h, Bool.true_or, Bool.false_or] at hN <;> exact hN
      · rw [map_bl]
        refine cAll_bl ⟨_, rfl, ?_⟩
        rw [all_map_id]
        have e2 : isState n (i : Nat) (rows.length : Nat) (.tup gs) = gs.all (goalOk i rows.length) := by
          simp only [isState, decide_eq_true hl, Bool.true_and]
        rw [e2] at no' hN'
        cases hg : gs.all (goalOk i rows.length) with
        | true => 
          simp only [wSeq, wNext, wIfS, wAsg, wRet, wRetN, wDrop, wOp, wUn, wgSub, wBM, z_tyd_lst,  wCB, wCons, wNil, wVar, wVarF, wC, wgName, wTe, wAnd, wOr, DL.wNot, wAndV, wOrV, wNotV, wIf, wCh, wEq, wNe, wIsi, wIsi2, wCall, wNever, wTup, wLst, wSl, wNoPart, wPart, wYes, endD, startR, newL_f, newL_t, List.map, List.length, List.length_cons, List.length_nil, List.getElem?_cons_zero, List.getElem?_cons_succ, List.set_cons_zero, List.set_cons_succ, List.cons_append, List.nil_append, List.append_nil, List.replicate, Nat.reduceSub, Nat.reduceAdd, Option.some.injEq, ex_some_iff, ex_bl_iff, ex_int_iff, ex_tup_iff, exists_eq_left', true_and, and_true, rd_non, rd_bl, rd_int, rd_str, rd_tup, rd_lst, pl_int, pl_bl, pl_non, pl_tup, pl_lst, pl_str, isNon_int, isNon_bl, isNon_non, isNon_tup, isNon_str, isNon_ref, isNon_lst, okD_int, okD_bl, okD_non, eqD_int, eqD_bl, eqD_non, Bool.false_eq_true, if_true, if_false, ite_true, ite_false, Bool.not_true, Bool.not_false, D.int.injEq, D.tup.injEq, D.lst.injEq, D.ref.injEq, D.bl.injEq, MO.lst.injEq, List.cons.injEq, reduceCtorEq, false_and, and_false, exists_const, and_assoc, exists_and_left, exists_eq_left, wLc, wiSeq, wipeR, id, wiEnum, wiZip, wiRng1, wiRng2, wgTup, lenOk, wgCons, wgNil, wFor, wLstRg1, z_in_lst, z_in_tup, flat_int, flat_ints, inD_ints, wRev, wDic0, wExtend,  z_ix_0, z_ixt_0, z_ix_1, z_ixt_1, z_ix_2, z_ixt_2, z_ix_3, z_ixt_3, z_ix_4, z_ixt_4, z_ix_5, z_ixt_5, z_ix_6, z_ixt_6, z_ix_7, z_ixt_7, z_ix_8, z_ixt_8, z_add_int, z_add_tup, z_add_lst, z_add_str, z_mul_int, z_mul_tup, z_mul_lst, z_ib_int, z_ii_int, z_neg_int, z_len_lst, z_len_tup, z_len_str, z_abs_int, z_int_int, z_cii_int, z_tuple_lst, z_tuple_tup, z_list_lst, z_list_tup, z_cut_lst, z_cut_tup, z_rev_lst, z_rev_tup, z_isN_, z_notN_, z_isB_, z_notB_, z_w1_, z_w2_, z_in_lst, z_in_tup, z_isK_int_int, z_isK_int_bl, z_isK_int_str, z_isK_int_tup, z_isK_int_lst, z_isK_int_dic, z_isK_int_non, z_isK_bool_int, z_isK_bool_bl, z_isK_bool_str, z_isK_bool_tup, z_isK_bool_lst, z_isK_bool_dic, z_isK_bool_non, z_isK_str_int, z_isK_str_bl, z_isK_str_str, z_isK_str_tup, z_isK_str_lst, z_isK_str_dic, z_isK_str_non, z_isK_tuple_int, z_isK_tuple_bl, z_isK_tuple_str, z_isK_tuple_tup, z_isK_tuple_lst, z_isK_tuple_dic, z_isK_tuple_non, z_isK_list_int, z_isK_list_bl, z_isK_list_str, z_isK_list_tup, z_isK_list_lst, z_isK_list_dic, z_isK_list_non, z_isK_dict_int, z_isK_dict_bl, z_isK_dict_str, z_isK_dict_tup, z_isK_dict_lst, z_isK_dict_dic, z_isK_dict_non, z_items_lst, z_items_tup]
          exact hN' hg _ _ _
        | false => 
          simp only [wSeq, wNext, wIfS, wAsg, wRet, wRetN, wDrop, wOp, wUn, wgSub, wBM, z_tyd_lst,  wCB, wCons, wNil, wVar, wVarF, wC, wgName, wTe, wAnd, wOr, DL.wNot, wAndV, wOrV, wNotV, wIf, wCh, wEq, wNe, wIsi, wIsi2, wCall, wNever, wTup, wLst, wSl, wNoPart, wPart, wYes, endD, startR, newL_f, newL_t, List.map, List.length, List.length_cons, List.length_nil, List.getElem?_cons_zero, List.getElem?_cons_succ, List.set_cons_zero, List.set_cons_succ, List.cons_append, List.nil_append, List.append_nil, List.replicate, Nat.reduceSub, Nat.reduceAdd, Option.some.injEq, ex_some_iff, ex_bl_iff, ex_int_iff, ex_tup_iff, exists_eq_left', true_and, and_true, rd_non, rd_bl, rd_int, rd_str, rd_tup, rd_lst, pl_int, pl_bl, pl_non, pl_tup, pl_lst, pl_str, isNon_int, isNon_bl, isNon_non, isNon_tup, isNon_str, isNon_ref, isNon_lst, okD_int, okD_bl, okD_non, eqD_int, eqD_bl, eqD_non, Bool.false_eq_true, if_true, if_false, ite_true, ite_false, Bool.not_true, Bool.not_false, D.int.injEq, D.tup.injEq, D.lst.injEq, D.ref.injEq, D.bl.injEq, MO.lst.injEq, List.cons.injEq, reduceCtorEq, false_and, and_false, exists_const, and_assoc, exists_and_left, exists_eq_left, wLc, wiSeq, wipeR, id, wiEnum, wiZip, wiRng1, wiRng2, wgTup, lenOk, wgCons, wgNil, wFor, wLstRg1, z_in_lst, z_in_tup, flat_int, flat_ints, inD_ints, wRev, wDic0, wExtend,  z_ix_0, z_ixt_0, z_ix_1, z_ixt_1, z_ix_2, z_ixt_2, z_ix_3, z_ixt_3, z_ix_4, z_ixt_4, z_ix_5, z_ixt_5, z_ix_6, z_ixt_6, z_ix_7, z_ixt_7, z_ix_8, z_ixt_8, z_add_int, z_add_tup, z_add_lst, z_add_str, z_mul_int, z_mul_tup, z_mul_lst, z_ib_int, z_ii_int, z_neg_int, z_len_lst, z_len_tup, z_len_str, z_abs_int, z_int_int, z_cii_int, z_tuple_lst, z_tuple_tup, z_list_lst, z_list_tup, z_cut_lst, z_cut_tup, z_rev_lst, z_rev_tup, z_isN_, z_notN_, z_isB_, z_notB_, z_w1_, z_w2_, z_in_lst, z_in_tup, z_isK_int_int, z_isK_int_bl, z_isK_int_str, z_isK_int_tup, z_isK_int_lst, z_isK_int_dic, z_isK_int_non, z_isK_bool_int, z_isK_bool_bl, z_isK_bool_str, z_isK_bool_tup, z_isK_bool_lst, z_isK_bool_dic, z_isK_bool_non, z_isK_str_int, z_isK_str_bl, z_isK_str_str, z_isK_str_tup, z_isK_str_lst, z_isK_str_dic, z_isK_str_non, z_isK_tuple_int, z_isK_tuple_bl, z_isK_tuple_str, z_isK_tuple_tup, z_isK_tuple_lst, z_isK_tuple_dic, z_isK_tuple_non, z_isK_list_int, z_isK_list_bl, z_isK_list_str, z_isK_list_tup, z_isK_list_lst, z_isK_list_dic, z_isK_list_non, z_isK_dict_int, z_isK_dict_bl, z_isK_dict_str, z_isK_dict_tup, z_isK_dict_lst, z_isK_dict_dic, z_isK_dict_non, z_items_lst, z_items_tup]
          exact no' hg)
theorem D__law_is_screen (A : Al K mg) : Def P w K mg base CX0 2 "_law_is_screen" ["count", "thing"] sp__law_is_screen := by
  obtain ⟨f, fd, Fu, hm, hb⟩ := fu__law_is_screen A
  exact ⟨f, fd, O__law_is_screen A Fu, hm, Fu.kp, hb⟩
end
end W38
namespace W38
open PySem PySem.Spec PyProof.Rows L2 DL
theorem sc_check_count : FnScope ["count"] ["count"] (defScope s_check_count) := ⟨rfl, rfl, rfl, by decide +kernel, rfl, by decide +kernel, by decide +kernel⟩
theorem ar_check_count : ∀ ds S Q E, sp_check_count ds S Q E → ds.length = 1 := by
  rintro ds S Q E h
  simp only [sp_check_count] at h
  obtain ⟨_, h⟩ := h
  repeat (first | (obtain ⟨rfl, _⟩ := h; rfl) | (obtain ⟨_, h⟩ := h))
section
variable {P : Program} {w : World} {K : PySem.W.Frag} {mg : Str → Option Value} {base : Heap}
theorem O_check_count (A : Al K mg) {f : Addr} {fd : FuncData} (Fu : FunD K "check_count" "check_count" (defArgs s_check_count) (defBody s_check_count) (defScope s_check_count) [] [] f fd) : FnOk P w K mg base CX0 3 f fd ["count"] (spD K sp_check_count) := by
  refine fn_d Fu sc_check_count ar_check_count (fun cdv A0 outer s0 H0 E0' hr => ⟨_, _,
      (db_one (ds_if (dt_not (dt_val (de_callK (D_is_within A) (hr.mono (by decide)) pass0 rfl (da_cons (de_var 0) (da_cons de_int (da_cons (de_gint rfl A.c_MOST_COUNT) da_nil))))))
        (db_one ds_never)
        db_nil)),
      ?_⟩)
  all_goals (
    rintro ds S Q Ed ⟨c, rfl, hc, q⟩
    simp only [wSeq, wNext, wIfS, wAsg, wRet, wRetN, wDrop, wOp, wUn, wgSub, wBM, z_tyd_lst,  wCB, wCons, wNil, wVar, wVarF, wC, wgName, wTe, wAnd, wOr, DL.wNot, wAndV, wOrV, wNotV, wIf, wCh, wEq, wNe, wIsi, wIsi2, wCall, wNever, wTup, wLst, wSl, wNoPart, wPart, wYes, endD, startR, newL_f, newL_t, List.map, List.length, List.length_cons, List.length_nil, List.getElem?_cons_zero, List.getElem?_cons_succ, List.set_cons_zero, List.set_cons_succ, List.cons_append, List.nil_append, List.append_nil, List.replicate, Nat.reduceSub, Nat.reduceAdd, Option.some.injEq, ex_some_iff, ex_bl_iff, ex_int_iff, ex_tup_iff, exists_eq_left', true_and, and_true, rd_non, rd_bl, rd_int, rd_str, rd_tup, rd_lst, pl_int, pl_bl, pl_non, pl_tup, pl_lst, pl_str, isNon_int, isNon_bl, isNon_non, isNon_tup, isNon_str, isNon_ref, isNon_lst, okD_int, okD_bl, okD_non, eqD_int, eqD_bl, eqD_non, Bool.false_eq_true, if_true, if_false, ite_true, ite_false, Bool.not_true, Bool.not_false, D.int.injEq, D.tup.injEq, D.lst.injEq, D.ref.injEq, D.bl.injEq, MO.lst.injEq, List.cons.injEq, reduceCtorEq, false_and, and_false, exists_const, and_assoc, exists_and_left, exists_eq_left, wLc, wiSeq, wipeR, id, wiEnum, wiZip, wiRng1, wiRng2, wgTup, lenOk, wgCons, wgNil, wFor, wLstRg1, z_in_lst, z_in_tup, flat_int, flat_ints, inD_ints, wRev, wDic0, wExtend,  z_ix_0, z_ixt_0, z_ix_1, z_ixt_1, z_ix_2, z_ixt_2, z_ix_3, z_ixt_3, z_ix_4, z_ixt_4, z_ix_5, z_ixt_5, z_ix_6, z_ixt_6, z_ix_7, z_ixt_7, z_ix_8, z_ixt_8, z_add_int, z_add_tup, z_add_lst, z_add_str, z_mul_int, z_mul_tup, z_mul_lst, z_ib_int, z_ii_int, z_neg_int, z_len_lst, z_len_tup, z_len_str, z_abs_int, z_int_int, z_cii_int, z_tuple_lst, z_tuple_tup, z_list_lst, z_list_tup, z_cut_lst, z_cut_tup, z_rev_lst, z_rev_tup, z_isN_, z_notN_, z_isB_, z_notB_, z_w1_, z_w2_, z_in_lst, z_in_tup, z_isK_int_int, z_isK_int_bl, z_isK_int_str, z_isK_int_tup, z_isK_int_lst, z_isK_int_dic, z_isK_int_non, z_isK_bool_int, z_isK_bool_bl, z_isK_bool_str, z_isK_bool_tup, z_isK_bool_lst, z_isK_bool_dic, z_isK_bool_non, z_isK_str_int, z_isK_str_bl, z_isK_str_str, z_isK_str_tup, z_isK_str_lst, z_isK_str_dic, z_isK_str_non, z_isK_tuple_int, z_isK_tuple_bl, z_isK_tuple_str, z_isK_tuple_tup, z_isK_tuple_lst, z_isK_tuple_dic, z_isK_tuple_non, z_isK_list_int, z_isK_list_bl, z_isK_list_str, z_isK_list_tup, z_isK_list_lst, z_isK_list_dic, z_isK_list_non, z_isK_dict_int, z_isK_dict_bl, z_isK_dict_str, z_isK_dict_tup, z_isK_dict_lst, z_isK_dict_dic, z_isK_dict_non, z_items_lst, z_items_tup, sp_is_within, isWithin]
    rw [if_neg (by simp [hc.1, hc.2])]
    exact outK.same q)
theorem D_check_count (A : Al K mg) : Def P w K mg base CX0 3 "check_count" ["count"] sp_check_count := by
  obtain ⟨f, fd, Fu, hm, hb⟩ := fu_check_count A
  exact ⟨f, fd, O_check_count A Fu, hm, Fu.kp, hb⟩
end
end W38
namespace W38
open PySem PySem.Spec PyProof.Rows L2 DL
theorem sc_is_state : FnScope ["count", "at", "many", "thing", "goal"] ["count", "at", "many", "thing"] (defScope s_is_state) := ⟨rfl, rfl, rfl, by decide +kernel, rfl, by decide +kernel, by decide +kernel⟩
theorem ar_is_state : ∀ ds S Q E, sp_is_state ds S Q E → ds.length = 4 := by
  rintro ds S Q E h
  simp only [sp_is_state] at h
  obtain ⟨_, h⟩ := h
  repeat (first | (obtain ⟨rfl, _⟩ := h; rfl) | (obtain ⟨_, h⟩ := h))
section
variable {P : Program} {w : World} {K : PySem.W.Frag} {mg : Str → Option Value} {base : Heap}
theorem O_is_state (A : Al K mg) {f : Addr} {fd : FuncData} (Fu : FunD K "is_state" "is_state" (defArgs s_is_state) (defBody s_is_state) (defScope s_is_state) [] [] f fd) : FnOk P w K mg base CX0 3 f fd ["count", "at", "many", "thing"] (spD K sp_is_state) := by
  refine fn_d Fu sc_is_state ar_is_state (fun cdv A0 outer s0 H0 E0' hr => ⟨_, _,
      (db_cons (ds_if (dt_not (dt_val (de_callK (D_is_tuple A) (hr.mono (by decide)) pass0 rfl (da_cons (de_var 3) (da_cons (de_var 0) (da_cons (de_var 0) da_nil))))))
        (db_one (ds_ret de_bl))
        db_nil)
      (db_one (ds_ret (de_cb (cr_allK K rfl) roc_all rfl A.b_all (by decide +kernel) (da_cons (de_lc false [("goal", 4)] rfl sc_is_state.nd (di_seqK K (de_var 3)) (blkOk_by (by kernel_rfl)) (fun _ _ _ _ _ => (dg_name (vs := [4]) 4 (by decide) sc_is_state.nd)) (fun _ _ _ _ _ => dts_nil) (fun _ _ _ _ _ => (de_or (de_cmp op_isN ro_isN (de_var 4) de_non (nomark _)) (de_one (de_callK (D_is_within A) (hr.mono (by decide)) pass0 rfl (da_cons (de_var 4) (da_cons (de_op (op_addK K) (ro_add false) (de_var 1) de_int) (da_cons (de_op op_sub ro_I0 (de_var 2) de_int) da_nil)))))))) da_nil))))),
      ?_⟩)
  all_goals (
    rintro ds S Q Ed ⟨count, at_, many, x, rfl, hc, px, q⟩
    simp only [wSeq, wNext, wIfS, wAsg, wRet, wRetN, wDrop, wOp, wUn, wgSub, wBM, z_tyd_lst,  wCB, wCons, wNil, wVar, wVarF, wC, wgName, wTe, wAnd, wOr, DL.wNot, wAndV, wOrV, wNotV, wIf, wCh, wEq, wNe, wIsi, wIsi2, wCall, wNever, wTup, wLst, wSl, wNoPart, wPart, wYes, endD, startR, newL_f, newL_t, List.map, List.length, List.length_cons, List.length_nil, List.getElem?_cons_zero, List.getElem?_cons_succ, List.set_cons_zero, List.set_cons_succ, List.cons_append, List.nil_append, List.append_nil, List.replicate, Nat.reduceSub, Nat.reduceAdd, Option.some.injEq, ex_some_iff, ex_bl_iff, ex_int_iff, ex_tup_iff, exists_eq_left', true_and, and_true, rd_non, rd_bl, rd_int, rd_str, rd_tup, rd_lst, pl_int, pl_bl, pl_non, pl_tup, pl_lst, pl_str, isNon_int, isNon_bl, isNon_non, isNon_tup, isNon_str, isNon_ref, isNon_lst, okD_int, okD_bl, okD_non, eqD_int, eqD_bl, eqD_non, Bool.false_eq_true, if_true, if_false, ite_true, ite_false, Bool.not_true, Bool.not_false, D.int.injEq, D.tup.injEq, D.lst.injEq, D.ref.injEq, D.bl.injEq, MO.lst.injEq, List.cons.injEq, reduceCtorEq, false_and, and_false, exists_const, and_assoc, exists_and_left, exists_eq_left, wLc, wiSeq, wipeR, id, wiEnum, wiZip, wiRng1, wiRng2, wgTup, lenOk, wgCons, wgNil, wFor, wLstRg1, z_in_lst, z_in_tup, flat_int, flat_ints, inD_ints, wRev, wDic0, wExtend,  z_ix_0, z_ixt_0, z_ix_1, z_ixt_1, z_ix_2, z_ixt_2, z_ix_3, z_ixt_3, z_ix_4, z_ixt_4, z_ix_5, z_ixt_5, z_ix_6, z_ixt_6, z_ix_7, z_ixt_7, z_ix_8, z_ixt_8, z_add_int, z_add_tup, z_add_lst, z_add_str, z_mul_int, z_mul_tup, z_mul_lst, z_ib_int, z_ii_int, z_neg_int, z_len_lst, z_len_tup, z_len_str, z_abs_int, z_int_int, z_cii_int, z_tuple_lst, z_tuple_tup, z_list_lst, z_list_tup, z_cut_lst, z_cut_tup, z_rev_lst, z_rev_tup, z_isN_, z_notN_, z_isB_, z_notB_, z_w1_, z_w2_, z_in_lst, z_in_tup, z_isK_int_int, z_isK_int_bl, z_isK_int_str, z_isK_int_tup, z_isK_int_lst, z_isK_int_dic, z_isK_int_non, z_isK_bool_int, z_isK_bool_bl, z_isK_bool_str, z_isK_bool_tup, z_isK_bool_lst, z_isK_bool_dic, z_isK_bool_non, z_isK_str_int, z_isK_str_bl, z_isK_str_str, z_isK_str_tup, z_isK_str_lst, z_isK_str_dic, z_isK_str_non, z_isK_tuple_int, z_isK_tuple_bl, z_isK_tuple_str, z_isK_tuple_tup, z_isK_tuple_lst, z_isK_tuple_dic, z_isK_tuple_non, z_isK_list_int, z_isK_list_bl, z_isK_list_str, z_isK_list_tup, z_isK_list_lst, z_isK_list_dic, z_isK_list_non, z_isK_dict_int, z_isK_dict_bl, z_isK_dict_str, z_isK_dict_tup, z_isK_dict_lst, z_isK_dict_dic, z_isK_dict_non, z_items_lst, z_items_tup, sp_is_tuple, pl_of_pu px]
    cases x <;> first | exact outK.same q | skip
    rename_i gs
    simp only [wSeq, wNext, wIfS, wAsg, wRet, wRetN, wDrop, wOp, wUn, wgSub, wBM, z_tyd_lst,  wCB, wCons, wNil, wVar, wVarF, wC, wgName, wTe, wAnd, wOr, DL.wNot, wAndV, wOrV, wNotV, wIf, wCh, wEq, wNe, wIsi, wIsi2, wCall, wNever, wTup, wLst, wSl, wNoPart, wPart, wYes, endD, startR, newL_f, newL_t, List.map, List.length, List.length_cons, List.length_nil, List.getElem?_cons_zero, List.getElem?_cons_succ, List.set_cons_zero, List.set_cons_succ, List.cons_append, List.nil_append, List.append_nil, List.replicate, Nat.reduceSub, Nat.reduceAdd, Option.some.injEq, ex_some_iff, ex_bl_iff, ex_int_iff, ex_tup_iff, exists_eq_left', true_and, and_true, rd_non, rd_bl, rd_int, rd_str, rd_tup, rd_lst, pl_int, pl_bl, pl_non, pl_tup, pl_lst, pl_str, isNon_int, isNon_bl, isNon_non, isNon_tup, isNon_str, isNon_ref, isNon_lst, okD_int, okD_bl, okD_non, eqD_int, eqD_bl, eqD_non, Bool.false_eq_true, if_true, if_false, ite_true, ite_false, Bool.not_true, Bool.not_false, D.int.injEq, D.tup.injEq, D.lst.injEq, D.ref.injEq, D.bl.injEq, MO.lst.injEq, List.cons.injEq, reduceCtorEq, false_and, and_false, exists_const, and_assoc, exists_and_left, exists_eq_left, wLc, wiSeq, wipeR, id, wiEnum, wiZip, wiRng1, wiRng2, wgTup, lenOk, wgCons, wgNil, wFor, wLstRg1, z_in_lst, z_in_tup, flat_int, flat_ints, inD_ints, wRev, wDic0, wExtend,  z_ix_0, z_ixt_0, z_ix_1, z_ixt_1, z_ix_2, z_ixt_2, z_ix_3, z_ixt_3, z_ix_4, z_ixt_4, z_ix_5, z_ixt_5, z_ix_6, z_ixt_6, z_ix_7, z_ixt_7, z_ix_8, z_ixt_8, z_add_int, z_add_tup, z_add_lst, z_add_str, z_mul_int, z_mul_tup, z_mul_lst, z_ib_int, z_ii_int, z_neg_int, z_len_lst, z_len_tup, z_len_str, z_abs_int, z_int_int, z_cii_int, z_tuple_lst, z_tuple_tup, z_list_lst, z_list_tup, z_cut_lst, z_cut_tup, z_rev_lst, z_rev_tup, z_isN_, z_notN_, z_isB_, z_notB_, z_w1_, z_w2_, z_in_lst, z_in_tup, z_isK_int_int, z_isK_int_bl, z_isK_int_str, z_isK_int_tup, z_isK_int_lst, z_isK_int_dic, z_isK_int_non, z_isK_bool_int, z_isK_bool_bl, z_isK_bool_str, z_isK_bool_tup, z_isK_bool_lst, z_isK_bool_dic, z_isK_bool_non, z_isK_str_int, z_isK_str_bl, z_isK_str_str, z_isK_str_tup, z_isK_str_lst, z_isK_str_dic, z_isK_str_non, z_isK_tuple_int, z_isK_tuple_bl, z_isK_tuple_str, z_isK_tuple_tup, z_isK_tuple_lst, z_isK_tuple_dic, z_isK_tuple_non, z_isK_list_int, z_isK_list_bl, z_isK_list_str, z_isK_list_tup, z_isK_list_lst, z_isK_list_dic, z_isK_list_non, z_isK_dict_int, z_isK_dict_bl, z_isK_dict_str, z_isK_dict_tup, z_isK_dict_lst, z_isK_dict_dic, z_isK_dict_non, z_items_lst, z_items_tup, isTup]
    refine ite_bl (fun h => ?_) (fun h => ?_)
    · have hl : ¬ (gs.length : Int) = count := by
        intro e
        simp [e] at h
      simp only [isState, decide_eq_false hl, Bool.false_and] at q
      exact outK.same q
    · have hl : (gs.length : Int) = count := by
        simp at h
        omega
      refine compL_map (fun g => D.bl (goalOk at_ many g)) noG_any (le_sz (by omega)) (fun d hd S' sub N hN => ?_) ?_
      · have pd : pu d = true := pus_mem (by simpa [pu] using px) hd
        simp only [wSeq, wNext, wIfS, wAsg, wRet, wRetN, wDrop, wOp, wUn, wgSub, wBM, z_tyd_lst,  wCB, wCons, wNil, wVar, wVarF, wC, wgName, wTe, wAnd, wOr, DL.wNot, wAndV, wOrV, wNotV, wIf, wCh, wEq, wNe, wIsi, wIsi2, wCall, wNever, wTup, wLst, wSl, wNoPart, wPart, wYes, endD, startR, newL_f, newL_t, List.map, List.length, List.length_cons, List.length_nil, List.getElem?_cons_zero, List.getElem?_cons_succ, List.set_cons_zero, List.set_cons_succ, List.cons_append, List.nil_append, List.append_nil, List.replicate, Nat.reduceSub, Nat.reduceAdd, Option.some.injEq, ex_some_iff, ex_bl_iff, ex_int_iff, ex_tup_iff, exists_eq_left', true_and, and_true, rd_non, rd_bl, rd_int, rd_str, rd_tup, rd_lst, pl_int, pl_bl, pl_non, pl_tup, pl_lst, pl_str, isNon_int, isNon_bl, isNon_non, isNon_tup, isNon_str, isNon_ref, isNon_lst, okD_int, okD_bl, okD_non, eqD_int, eqD_bl, eqD_non, Bool.false_eq_true, if_true, if_false, ite_true, ite_false, Bool.not_true, Bool.not_false, D.int.injEq, D.tup.injEq, D.lst.injEq, D.ref.injEq, D.bl.injEq, MO.lst.injEq, List.cons.injEq, reduceCtorEq, false_and, and_false, exists_const, and_assoc, exists_and_left, exists_eq_left, wLc, wiSeq, wipeR, id, wiEnum, wiZip, wiRng1, wiRng2, wgTup, lenOk, wgCons, wgNil, wFor, wLstRg1, z_in_lst, z_in_tup, flat_int, flat_ints, inD_ints, wRev, wDic0, wExtend,  z_ix_0, z_ixt_0, z_ix_1, z_ixt_1, z_ix_2, z_ixt_2, z_ix_3, z_ixt_3, z_ix_4, z_ixt_4, z_ix_5, z_ixt_5, z_ix_6, z_ixt_6, z_ix_7, z_ixt_7, z_ix_8, z_ixt_8, z_add_int, z_add_tup, z_add_lst, z_add_str, z_mul_int, z_mul_tup, z_mul_lst, z_ib_int, z_ii_int, z_neg_int, z_len_lst, z_len_tup, z_len_str, z_abs_int, z_int_int, z_cii_int, z_tuple_lst, z_tuple_tup, z_list_lst, z_list_tup, z_cut_lst, z_cut_tup, z_rev_lst, z_rev_tup, z_isN_, z_notN_, z_isB_, z_notB_, z_w1_, z_w2_, z_in_lst, z_in_tup, z_isK_int_int, z_isK_int_bl, z_isK_int_str, z_isK_int_tup, z_isK_int_lst, z_isK_int_dic, z_isK_int_non, z_isK_bool_int, z_isK_bool_bl, z_isK_bool_str, z_isK_bool_tup, z_isK_bool_lst, z_isK_bool_dic, z_isK_bool_non, z_isK_str_int, z_isK_str_bl, z_isK_str_str, z_isK_str_tup, z_isK_str_lst, z_isK_str_dic, z_isK_str_non, z_isK_tuple_int, z_isK_tuple_bl, z_isK_tuple_str, z_isK_tuple_tup, z_isK_tuple_lst, z_isK_tuple_dic, z_isK_tuple_non, z_isK_list_int, z_isK_list_bl, z_isK_list_str, z_isK_list_tup, z_isK_list_lst, z_isK_list_dic, z_isK_list_non, z_isK_dict_int, z_isK_dict_bl, z_isK_dict_str, z_isK_dict_tup, z_isK_dict_lst, z_isK_dict_dic, z_isK_dict_non, z_items_lst, z_items_tup, sp_is_within, rd_pu pd, pl_of_pu pd]
        refine ite_bl (fun h => ?_) (fun h => ?_) <;> simp only [goalOk, h, Bool.true_or, Bool.false_or] at hN <;> exact hN
      · simp only [isState, decide_eq_true hl, Bool.true_and] at q
        rw [map_bl]
        refine cAll_bl (outK.same ?_)
        rw [all_map_id]
        exact q)
theorem D_is_state (A : Al K mg) : Def P w K mg base CX0 3 "is_state" ["count", "at", "many", "thing"] sp_is_state := by
  obtain ⟨f, fd, Fu, hm, hb⟩ := fu_is_state A
  exact ⟨f, fd, O_is_state A Fu, hm, Fu.kp, hb⟩
end
end W38
namespace W38
open PySem PySem.Spec PyProof.Rows L2 DL
theorem sc_is_order_of : FnScope ["count", "thing", "one"] ["count", "thing"] (defScope s_is_order_of) := ⟨rfl, rfl, rfl, by decide +kernel, rfl, by decide +kernel, by decide +kernel⟩
theorem ar_is_order_of : ∀ ds S Q E, sp_is_order_of ds S Q E → ds.length = 2 := by
  rintro ds S Q E h
  simp only [sp_is_order_of] at h
  obtain ⟨_, h⟩ := h
  repeat (first | (obtain ⟨rfl, _⟩ := h; rfl) | (obtain ⟨_, h⟩ := h))
section
variable {P : Program} {w : World} {K : PySem.W.Frag} {mg : Str → Option Value} {base : Heap}
theorem O_is_order_of (A : Al K mg) {f : Addr} {fd : FuncData} (Fu : FunD K "is_order_of" "is_order_of" (defArgs s_is_order_of) (defBody s_is_order_of) (defScope s_is_order_of) [] [] f fd) : FnOk P w K mg base CX0 3 f fd ["count", "thing"] (spD K sp_is_order_of) := by
  refine fn_d Fu sc_is_order_of ar_is_order_of (fun cdv A0 outer s0 H0 E0' hr => ⟨_, _,
      (db_cons (ds_if (dt_w (dw_or (dt_not (dt_val (de_callK (D_is_tuple A) (hr.mono (by decide)) pass0 rfl (da_cons (de_var 1) (da_cons (de_var 0) (da_cons (de_var 0) da_nil)))))) (dw_or1 (dt_not (dt_val (de_cb (cr_allK K rfl) roc_all rfl A.b_all (by decide +kernel) (da_cons (de_lc false [("one", 2)] rfl sc_is_order_of.nd (di_seqK K (de_var 1)) (blkOk_by (by kernel_rfl)) (fun _ _ _ _ _ => (dg_name (vs := [2]) 2 (by decide) sc_is_order_of.nd)) (fun _ _ _ _ _ => dts_nil) (fun _ _ _ _ _ => (de_callK (D_is_within A) (hr.mono (by decide)) pass0 rfl (da_cons (de_var 2) (da_cons de_int (da_cons (de_op op_sub ro_I0 (de_var 0) de_int) da_nil)))))) da_nil)))))))
        (db_one (ds_ret de_bl))
        db_nil)
      (db_one (ds_ret (de_cmp (op_eqK K hr.units) ro_eq (de_cb (cr_sortedK K) (roc_sortedA false) rfl A.b_sorted (by decide +kernel) (da_cons (de_var 1) da_nil)) (de_listRg1 false rfl rfl A.b_list rfl A.b_range (de_var 0)) (nomark _))))),
      ?_⟩)
  all_goals (
    rintro ds S Q Ed ⟨count, order, rfl, hc, hp, q⟩
    simp only [wSeq, wNext, wIfS, wAsg, wRet, wRetN, wDrop, wOp, wUn, wgSub, wBM, z_tyd_lst,  wCB, wCons, wNil, wVar, wVarF, wC, wgName, wTe, wAnd, wOr, DL.wNot, wAndV, wOrV, wNotV, wIf, wCh, wEq, wNe, wIsi, wIsi2, wCall, wNever, wTup, wLst, wSl, wNoPart, wPart, wYes, endD, startR, newL_f, newL_t, List.map, List.length, List.length_cons, List.length_nil, List.getElem?_cons_zero, List.getElem?_cons_succ, List.set_cons_zero, List.set_cons_succ, List.cons_append, List.nil_append, List.append_nil, List.replicate, Nat.reduceSub, Nat.reduceAdd, Option.some.injEq, ex_some_iff, ex_bl_iff, ex_int_iff, ex_tup_iff, exists_eq_left', true_and, and_true, rd_non, rd_bl, rd_int, rd_str, rd_tup, rd_lst, pl_int, pl_bl, pl_non, pl_tup, pl_lst, pl_str, isNon_int, isNon_bl, isNon_non, isNon_tup, isNon_str, isNon_ref, isNon_lst, okD_int, okD_bl, okD_non, eqD_int, eqD_bl, eqD_non, Bool.false_eq_true, if_true, if_false, ite_true, ite_false, Bool.not_true, Bool.not_false, D.int.injEq, D.tup.injEq, D.lst.injEq, D.ref.injEq, D.bl.injEq, MO.lst.injEq, List.cons.injEq, reduceCtorEq, false_and, and_false, exists_const, and_assoc, exists_and_left, exists_eq_left, wLc, wiSeq, wipeR, id, wiEnum, wiZip, wiRng1, wiRng2, wgTup, lenOk, wgCons, wgNil, wFor, wLstRg1, z_in_lst, z_in_tup, flat_int, flat_ints, inD_ints, wRev, wDic0, wExtend,  z_ix_0, z_ixt_0, z_ix_1, z_ixt_1, z_ix_2, z_ixt_2, z_ix_3, z_ixt_3, z_ix_4, z_ixt_4, z_ix_5, z_ixt_5, z_ix_6, z_ixt_6, z_ix_7, z_ixt_7, z_ix_8, z_ixt_8, z_add_int, z_add_tup, z_add_lst, z_add_str, z_mul_int, z_mul_tup, z_mul_lst, z_ib_int, z_ii_int, z_neg_int, z_len_lst, z_len_tup, z_len_str, z_abs_int, z_int_int, z_cii_int, z_tuple_lst, z_tuple_tup, z_list_lst, z_list_tup, z_cut_lst, z_cut_tup, z_rev_lst, z_rev_tup, z_isN_, z_notN_, z_isB_, z_notB_, z_w1_, z_w2_, z_in_lst, z_in_tup, z_isK_int_int, z_isK_int_bl, z_isK_int_str, z_isK_int_tup, z_isK_int_lst, z_isK_int_dic, z_isK_int_non, z_isK_bool_int, z_isK_bool_bl, z_isK_bool_str, z_isK_bool_tup, z_isK_bool_lst, z_isK_bool_dic, z_isK_bool_non, z_isK_str_int, z_isK_str_bl, z_isK_str_str, z_isK_str_tup, z_isK_str_lst, z_isK_str_dic, z_isK_str_non, z_isK_tuple_int, z_isK_tuple_bl, z_isK_tuple_str, z_isK_tuple_tup, z_isK_tuple_lst, z_isK_tuple_dic, z_isK_tuple_non, z_isK_list_int, z_isK_list_bl, z_isK_list_str, z_isK_list_tup, z_isK_list_lst, z_isK_list_dic, z_isK_list_non, z_isK_dict_int, z_isK_dict_bl, z_isK_dict_str, z_isK_dict_tup, z_isK_dict_lst, z_isK_dict_dic, z_isK_dict_non, z_items_lst, z_items_tup, sp_is_tuple, isTup]
    have hl : (order.length : Int) = count := permN_length hc.1 hp
    rw [if_neg (by simp; omega)]
    refine compL_map (fun _ => D.bl true) noG_any (le_sz (by rw [List.length_map]; omega)) (fun d hd S' sub N hN => ?_) ?_
    · obtain ⟨l, hl, rfl⟩ := List.mem_map.mp hd
      have := permN_mem hp hl
      simp only [wSeq, wNext, wIfS, wAsg, wRet, wRetN, wDrop, wOp, wUn, wgSub, wBM, z_tyd_lst,  wCB, wCons, wNil, wVar, wVarF, wC, wgName, wTe, wAnd, wOr, DL.wNot, wAndV, wOrV, wNotV, wIf, wCh, wEq, wNe, wIsi, wIsi2, wCall, wNever, wTup, wLst, wSl, wNoPart, wPart, wYes, endD, startR, newL_f, newL_t, List.map, List.length, List.length_cons, List.length_nil, List.getElem?_cons_zero, List.getElem?_cons_succ, List.set_cons_zero, List.set_cons_succ, List.cons_append, List.nil_append, List.append_nil, List.replicate, Nat.reduceSub, Nat.reduceAdd, Option.some.injEq, ex_some_iff, ex_bl_iff, ex_int_iff, ex_tup_iff, exists_eq_left', true_and, and_true, rd_non, rd_bl, rd_int, rd_str, rd_tup, rd_lst, pl_int, pl_bl, pl_non, pl_tup, pl_lst, pl_str, isNon_int, isNon_bl, isNon_non, isNon_tup, isNon_str, isNon_ref, isNon_lst, okD_int, okD_bl, okD_non, eqD_int, eqD_bl, eqD_non, Bool.false_eq_true, if_true, if_false, ite_true, ite_false, Bool.not_true, Bool.not_false, D.int.injEq, D.tup.injEq, D.lst.injEq, D.ref.injEq, D.bl.injEq, MO.lst.injEq, List.cons.injEq, reduceCtorEq, false_and, and_false, exists_const, and_assoc, exists_and_left, exists_eq_left, wLc, wiSeq, wipeR, id, wiEnum, wiZip, wiRng1, wiRng2, wgTup, lenOk, wgCons, wgNil, wFor, wLstRg1, z_in_lst, z_in_tup, flat_int, flat_ints, inD_ints, wRev, wDic0, wExtend,  z_ix_0, z_ixt_0, z_ix_1, z_ixt_1, z_ix_2, z_ixt_2, z_ix_3, z_ixt_3, z_ix_4, z_ixt_4, z_ix_5, z_ixt_5, z_ix_6, z_ixt_6, z_ix_7, z_ixt_7, z_ix_8, z_ixt_8, z_add_int, z_add_tup, z_add_lst, z_add_str, z_mul_int, z_mul_tup, z_mul_lst, z_ib_int, z_ii_int, z_neg_int, z_len_lst, z_len_tup, z_len_str, z_abs_int, z_int_int, z_cii_int, z_tuple_lst, z_tuple_tup, z_list_lst, z_list_tup, z_cut_lst, z_cut_tup, z_rev_lst, z_rev_tup, z_isN_, z_notN_, z_isB_, z_notB_, z_w1_, z_w2_, z_in_lst, z_in_tup, z_isK_int_int, z_isK_int_bl, z_isK_int_str, z_isK_int_tup, z_isK_int_lst, z_isK_int_dic, z_isK_int_non, z_isK_bool_int, z_isK_bool_bl, z_isK_bool_str, z_isK_bool_tup, z_isK_bool_lst, z_isK_bool_dic, z_isK_bool_non, z_isK_str_int, z_isK_str_bl, z_isK_str_str, z_isK_str_tup, z_isK_str_lst, z_isK_str_dic, z_isK_str_non, z_isK_tuple_int, z_isK_tuple_bl, z_isK_tuple_str, z_isK_tuple_tup, z_isK_tuple_lst, z_isK_tuple_dic, z_isK_tuple_non, z_isK_list_int, z_isK_list_bl, z_isK_list_str, z_isK_list_tup, z_isK_list_lst, z_isK_list_dic, z_isK_list_non, z_isK_dict_int, z_isK_dict_bl, z_isK_dict_str, z_isK_dict_tup, z_isK_dict_lst, z_isK_dict_dic, z_isK_dict_non, z_items_lst, z_items_tup, sp_is_within, isWithin]
      rw [decide_eq_true this.1, decide_eq_true (show l ≤ count - 1 by omega)]
      exact hN
    · rw [show (List.map D.int order).map (fun _ => D.bl true) = (order.map fun _ => true).map D.bl by rw [List.map_map, List.map_map]; rfl]
      refine cAll_bl ⟨_, rfl, ?_⟩
      rw [show (order.map fun _ => true).all id = true by simp]
      refine ⟨order, rfl, fun ns hn hs => ?_⟩
      have e : ns.map D.int = rangeD 0 count.toNat := permN_sorted (hn.trans hp) hs
      simp only [wSeq, wNext, wIfS, wAsg, wRet, wRetN, wDrop, wOp, wUn, wgSub, wBM, z_tyd_lst,  wCB, wCons, wNil, wVar, wVarF, wC, wgName, wTe, wAnd, wOr, DL.wNot, wAndV, wOrV, wNotV, wIf, wCh, wEq, wNe, wIsi, wIsi2, wCall, wNever, wTup, wLst, wSl, wNoPart, wPart, wYes, endD, startR, newL_f, newL_t, List.map, List.length, List.length_cons, List.length_nil, List.getElem?_cons_zero, List.getElem?_cons_succ, List.set_cons_zero, List.set_cons_succ, List.cons_append, List.nil_append, List.append_nil, List.replicate, Nat.reduceSub, Nat.reduceAdd, Option.some.injEq, ex_some_iff, ex_bl_iff, ex_int_iff, ex_tup_iff, exists_eq_left', true_and, and_true, rd_non, rd_bl, rd_int, rd_str, rd_tup, rd_lst, pl_int, pl_bl, pl_non, pl_tup, pl_lst, pl_str, isNon_int, isNon_bl, isNon_non, isNon_tup, isNon_str, isNon_ref, isNon_lst, okD_int, okD_bl, okD_non, eqD_int, eqD_bl, eqD_non, Bool.false_eq_true, if_true, if_false, ite_true, ite_false, Bool.not_true, Bool.not_false, D.int.injEq, D.tup.injEq, D.lst.injEq, D.ref.injEq, D.bl.injEq, MO.lst.injEq, List.cons.injEq, reduceCtorEq, false_and, and_false, exists_const, and_assoc, exists_and_left, exists_eq_left, wLc, wiSeq, wipeR, id, wiEnum, wiZip, wiRng1, wiRng2, wgTup, lenOk, wgCons, wgNil, wFor, wLstRg1, z_in_lst, z_in_tup, flat_int, flat_ints, inD_ints, wRev, wDic0, wExtend,  z_ix_0, z_ixt_0, z_ix_1, z_ixt_1, z_ix_2, z_ixt_2, z_ix_3, z_ixt_3, z_ix_4, z_ixt_4, z_ix_5, z_ixt_5, z_ix_6, z_ixt_6, z_ix_7, z_ixt_7, z_ix_8, z_ixt_8, z_add_int, z_add_tup, z_add_lst, z_add_str, z_mul_int, z_mul_tup, z_mul_lst, z_ib_int, z_ii_int, z_neg_int, z_len_lst, z_len_tup, z_len_str, z_abs_int, z_int_int, z_cii_int, z_tuple_lst, z_tuple_tup, z_list_lst, z_list_tup, z_cut_lst, z_cut_tup, z_rev_lst, z_rev_tup, z_isN_, z_notN_, z_isB_, z_notB_, z_w1_, z_w2_, z_in_lst, z_in_tup, z_isK_int_int, z_isK_int_bl, z_isK_int_str, z_isK_int_tup, z_isK_int_lst, z_isK_int_dic, z_isK_int_non, z_isK_bool_int, z_isK_bool_bl, z_isK_bool_str, z_isK_bool_tup, z_isK_bool_lst, z_isK_bool_dic, z_isK_bool_non, z_isK_str_int, z_isK_str_bl, z_isK_str_str, z_isK_str_tup, z_isK_str_lst, z_isK_str_dic, z_isK_str_non, z_isK_tuple_int, z_isK_tuple_bl, z_isK_tuple_str, z_isK_tuple_tup, z_isK_tuple_lst, z_isK_tuple_dic, z_isK_tuple_non, z_isK_list_int, z_isK_list_bl, z_isK_list_str, z_isK_list_tup, z_isK_list_lst, z_isK_list_dic, z_isK_list_non, z_isK_dict_int, z_isK_dict_bl, z_isK_dict_str, z_isK_dict_tup, z_isK_dict_lst, z_isK_dict_dic, z_isK_dict_non, z_items_lst, z_items_tup]
      rw [Int.sub_zero]
      refine ⟨by unfold RgOk; omega, ?_⟩
      rw [← e]
      exact ⟨okD_ints, okD_ints, outK.same (by rw [eqD_refl okD_ints]; exact q)⟩)
theorem D_is_order_of (A : Al K mg) : Def P w K mg base CX0 3 "is_order_of" ["count", "thing"] sp_is_order_of := by
  obtain ⟨f, fd, Fu, hm, hb⟩ := fu_is_order_of A
  exact ⟨f, fd, O_is_order_of A Fu, hm, Fu.kp, hb⟩
end
end W38
namespace W38
open PySem PySem.Spec PyProof.Rows L2 DL
theorem sc__law_bent : FnScope ["hand", "count", "thing", "at", "layer", "row", "odd", "rows", "some"] ["hand", "count", "thing"] (defScope s__law_bent) := ⟨rfl, rfl, rfl, by decide +kernel, rfl, by decide +kernel, by decide +kernel⟩
theorem ar__law_bent : ∀ ds S Q E, sp__law_bent ds S Q E → ds.length = 3 := by
  rintro ds S Q E h
  simp only [sp__law_bent] at h
  obtain ⟨_, h⟩ := h
  repeat (first | (obtain ⟨rfl, _⟩ := h; rfl) | (obtain ⟨_, h⟩ := h))
section
variable {P : Program} {w : World} {K : PySem.W.Frag} {mg : Str → Option Value} {base : Heap}
theorem O__law_bent (A : Al K mg) {f : Addr} {fd : FuncData} (Fu : FunD K "_law_bent" "_law_bent" (defArgs s__law_bent) (defBody s__law_bent) (defScope s__law_bent) [] [] f fd) : FnOk P w K mg base CX0 3 f fd ["hand", "count", "thing"] (spD K sp__law_bent) := by
  refine fn_d Fu sc__law_bent ar__law_bent (fun cdv A0 outer s0 H0 E0' hr => ⟨_, _,
      (db_cons (ds_par 3 4 rfl sc__law_bent.nd (by decide) (da_cons (de_callK (V__law_draw A) (hr.mono (by decide)) pass0 rfl (da_cons (de_var 0) (da_cons (de_cb (call_lenK K) roc_len rfl A.b_len (by decide +kernel) (da_cons (de_var 2) da_nil)) da_nil))) (da_cons (de_callK (V__law_draw A) (hr.mono (by decide)) pass0 rfl (da_cons (de_var 0) (da_cons (de_var 1) da_nil))) da_nil)))
      (db_cons (ds_set 5 sc__law_bent.nd (de_ixK K (de_var 2) (de_var 3)))
      (db_cons (ds_set 6 sc__law_bent.nd (de_callK (D__law_some A) (hr.mono (by decide)) pass0 rfl (da_cons (de_var 0) (da_cons (de_lst false (da_cons (de_var 3) (da_cons (de_op (op_addK K) (ro_add false) (de_var 3) de_int) (da_cons de_int (da_cons (de_cb (call_lenK K) roc_len rfl A.b_len (by decide +kernel) (da_cons (de_var 2) da_nil)) (da_cons (de_op op_sub ro_I0 (de_cb (call_lenK K) roc_len rfl A.b_len (by decide +kernel) (da_cons (de_var 2) da_nil)) de_int) (da_cons (de_un un_neg ro_neg de_int) (da_cons de_bl (da_cons de_non (da_cons de_str (da_cons (de_tup (da_cons de_int da_nil)) da_nil))))))))))) da_nil))))
      (db_cons (ds_set 7 sc__law_bent.nd (de_op (op_addK K) (ro_add false) (de_op (op_mulK K) (ro_mul false) (de_lst false (da_cons (de_op (op_addK K) (ro_add false) (de_op (op_addK K) (ro_add false) (de_slK K false (de_var 5) do_none (do_some (de_var 4))) (de_tup (da_cons (de_var 6) da_nil))) (de_slK K false (de_var 5) (do_some (de_op (op_addK K) (ro_add false) (de_var 4) de_int)) do_none)) da_nil)) de_int) (de_lst false (da_cons (de_ct (call_listK K) (roc_list false) rfl A.b_list (by decide +kernel) (da_cons (de_var 5) da_nil)) (da_cons (de_slK K false (de_var 5) (do_some de_int) do_none) (da_cons (de_op (op_addK K) (ro_add false) (de_var 5) (de_tup (da_cons de_non da_nil))) (da_cons de_non (da_cons (de_tup da_nil) da_nil))))))))
      (db_cons (ds_set 8 sc__law_bent.nd (de_op (op_addK K) (ro_add false) (de_op (op_mulK K) (ro_mul false) (de_lst false (da_cons (de_op (op_addK K) (ro_add false) (de_op (op_addK K) (ro_add false) (de_slK K false (de_var 2) do_none (do_some (de_var 3))) (de_tup (da_cons (de_callK (D__law_some A) (hr.mono (by decide)) pass0 rfl (da_cons (de_var 0) (da_cons (de_var 7) da_nil))) da_nil))) (de_slK K false (de_var 2) (do_some (de_op (op_addK K) (ro_add false) (de_var 3) de_int)) do_none)) da_nil)) de_int) (de_lst false (da_cons (de_ct (call_listK K) (roc_list false) rfl A.b_list (by decide +kernel) (da_cons (de_var 2) da_nil)) (da_cons (de_revK K false (de_var 2) (de_un un_neg ro_neg de_int)) (da_cons (de_slK K false (de_var 2) do_none (do_some (de_un un_neg ro_neg de_int))) da_nil))))))
      (db_one (ds_ret (de_callK (D__law_some A) (hr.mono (by decide)) pass0 rfl (da_cons (de_var 0) (da_cons (de_op (op_addK K) (ro_add false) (de_var 8) (de_lst false (da_cons (de_slK K false (de_var 2) (do_some de_int) do_none) (da_cons (de_tup da_nil) (da_cons de_non (da_cons de_int (da_cons de_dic0 (da_cons (de_op (op_addK K) (ro_add false) (de_var 2) (de_slK K false (de_var 2) (do_some (de_un un_neg ro_neg de_int)) do_none)) (da_cons (de_tup (da_cons (de_var 2) da_nil)) (da_cons (de_op (op_addK K) (ro_add false) (de_var 2) (de_tup (da_cons (de_op (op_mulK K) (ro_mul false) (de_tup (da_cons de_int da_nil)) (de_var 1)) da_nil))) da_nil)))))))))) da_nil)))))))))),
      ?_⟩)
  all_goals (
    rintro ds S Q Ed ⟨t, n, rows, rfl, hs, hn, hl, pr, hsc, q⟩
    have hl1 := screen_len hsc
    simp only [wSeq, wNext, wIfS, wAsg, wRet, wRetN, wDrop, wOp, wUn, wgSub, wBM, z_tyd_lst,  wCB, wCons, wNil, wVar, wVarF, wC, wgName, wTe, wAnd, wOr, DL.wNot, wAndV, wOrV, wNotV, wIf, wCh, wEq, wNe, wIsi, wIsi2, wCall, wNever, wTup, wLst, wSl, wNoPart, wPart, wYes, endD, startR, newL_f, newL_t, List.map, List.length, List.length_cons, List.length_nil, List.getElem?_cons_zero, List.getElem?_cons_succ, List.set_cons_zero, List.set_cons_succ, List.cons_append, List.nil_append, List.append_nil, List.replicate, Nat.reduceSub, Nat.reduceAdd, Option.some.injEq, ex_some_iff, ex_bl_iff, ex_int_iff, ex_tup_iff, exists_eq_left', true_and, and_true, rd_non, rd_bl, rd_int, rd_str, rd_tup, rd_lst, pl_int, pl_bl, pl_non, pl_tup, pl_lst, pl_str, isNon_int, isNon_bl, isNon_non, isNon_tup, isNon_str, isNon_ref, isNon_lst, okD_int, okD_bl, okD_non, eqD_int, eqD_bl, eqD_non, Bool.false_eq_true, if_true, if_false, ite_true, ite_false, Bool.not_true, Bool.not_false, D.int.injEq, D.tup.injEq, D.lst.injEq, D.ref.injEq, D.bl.injEq, MO.lst.injEq, List.cons.injEq, reduceCtorEq, false_and, and_false, exists_const, and_assoc, exists_and_left, exists_eq_left, wLc, wiSeq, wipeR, id, wiEnum, wiZip, wiRng1, wiRng2, wgTup, lenOk, wgCons, wgNil, wFor, wLstRg1, z_in_lst, z_in_tup, flat_int, flat_ints, inD_ints, wRev, wDic0, wExtend,  z_ix_0, z_ixt_0, z_ix_1, z_ixt_1, z_ix_2, z_ixt_2, z_ix_3, z_ixt_3, z_ix_4, z_ixt_4, z_ix_5, z_ixt_5, z_ix_6, z_ixt_6, z_ix_7, z_ixt_7, z_ix_8, z_ixt_8, z_add_int, z_add_tup, z_add_lst, z_add_str, z_mul_int, z_mul_tup, z_mul_lst, z_ib_int, z_ii_int, z_neg_int, z_len_lst, z_len_tup, z_len_str, z_abs_int, z_int_int, z_cii_int, z_tuple_lst, z_tuple_tup, z_list_lst, z_list_tup, z_cut_lst, z_cut_tup, z_rev_lst, z_rev_tup, z_isN_, z_notN_, z_isB_, z_notB_, z_w1_, z_w2_, z_in_lst, z_in_tup, z_isK_int_int, z_isK_int_bl, z_isK_int_str, z_isK_int_tup, z_isK_int_lst, z_isK_int_dic, z_isK_int_non, z_isK_bool_int, z_isK_bool_bl, z_isK_bool_str, z_isK_bool_tup, z_isK_bool_lst, z_isK_bool_dic, z_isK_bool_non, z_isK_str_int, z_isK_str_bl, z_isK_str_str, z_isK_str_tup, z_isK_str_lst, z_isK_str_dic, z_isK_str_non, z_isK_tuple_int, z_isK_tuple_bl, z_isK_tuple_str, z_isK_tuple_tup, z_isK_tuple_lst, z_isK_tuple_dic, z_isK_tuple_non, z_isK_list_int, z_isK_list_bl, z_isK_list_str, z_isK_list_tup, z_isK_list_lst, z_isK_list_dic, z_isK_list_non, z_isK_dict_int, z_isK_dict_bl, z_isK_dict_str, z_isK_dict_tup, z_isK_dict_lst, z_isK_dict_dic, z_isK_dict_non, z_items_lst, z_items_tup, drawSp, sp__law_some, wPar]
    refine ⟨hs, by omega, by omega, fun at_ h0 h1 => ⟨hs, by omega, by omega, fun layer h2 h3 => ?_⟩⟩
    obtain ⟨gs, e1, e2, e3⟩ := screen_at hsc h0 h1
    have pg : pus gs = true := by
      have := pus_getD pr at_.toNat
      rw [e1] at this
      exact this
    simp only [wSeq, wNext, wIfS, wAsg, wRet, wRetN, wDrop, wOp, wUn, wgSub, wBM, z_tyd_lst,  wCB, wCons, wNil, wVar, wVarF, wC, wgName, wTe, wAnd, wOr, DL.wNot, wAndV, wOrV, wNotV, wIf, wCh, wEq, wNe, wIsi, wIsi2, wCall, wNever, wTup, wLst, wSl, wNoPart, wPart, wYes, endD, startR, newL_f, newL_t, List.map, List.length, List.length_cons, List.length_nil, List.getElem?_cons_zero, List.getElem?_cons_succ, List.set_cons_zero, List.set_cons_succ, List.cons_append, List.nil_append, List.append_nil, List.replicate, Nat.reduceSub, Nat.reduceAdd, Option.some.injEq, ex_some_iff, ex_bl_iff, ex_int_iff, ex_tup_iff, exists_eq_left', true_and, and_true, rd_non, rd_bl, rd_int, rd_str, rd_tup, rd_lst, pl_int, pl_bl, pl_non, pl_tup, pl_lst, pl_str, isNon_int, isNon_bl, isNon_non, isNon_tup, isNon_str, isNon_ref, isNon_lst, okD_int, okD_bl, okD_non, eqD_int, eqD_bl, eqD_non, Bool.false_eq_true, if_true, if_false, ite_true, ite_false, Bool.not_true, Bool.not_false, D.int.injEq, D.tup.injEq, D.lst.injEq, D.ref.injEq, D.bl.injEq, MO.lst.injEq, List.cons.injEq, reduceCtorEq, false_and, and_false, exists_const, and_assoc, exists_and_left, exists_eq_left, wLc, wiSeq, wipeR, id, wiEnum, wiZip, wiRng1, wiRng2, wgTup, lenOk, wgCons, wgNil, wFor, wLstRg1, z_in_lst, z_in_tup, flat_int, flat_ints, inD_ints, wRev, wDic0, wExtend,  z_ix_0, z_ixt_0, z_ix_1, z_ixt_1, z_ix_2, z_ixt_2, z_ix_3, z_ixt_3, z_ix_4, z_ixt_4, z_ix_5, z_ixt_5, z_ix_6, z_ixt_6, z_ix_7, z_ixt_7, z_ix_8, z_ixt_8, z_add_int, z_add_tup, z_add_lst, z_add_str, z_mul_int, z_mul_tup, z_mul_lst, z_ib_int, z_ii_int, z_neg_int, z_len_lst, z_len_tup, z_len_str, z_abs_int, z_int_int, z_cii_int, z_tuple_lst, z_tuple_tup, z_list_lst, z_list_tup, z_cut_lst, z_cut_tup, z_rev_lst, z_rev_tup, z_isN_, z_notN_, z_isB_, z_notB_, z_w1_, z_w2_, z_in_lst, z_in_tup, z_isK_int_int, z_isK_int_bl, z_isK_int_str, z_isK_int_tup, z_isK_int_lst, z_isK_int_dic, z_isK_int_non, z_isK_bool_int, z_isK_bool_bl, z_isK_bool_str, z_isK_bool_tup, z_isK_bool_lst, z_isK_bool_dic, z_isK_bool_non, z_isK_str_int, z_isK_str_bl, z_isK_str_str, z_isK_str_tup, z_isK_str_lst, z_isK_str_dic, z_isK_str_non, z_isK_tuple_int, z_isK_tuple_bl, z_isK_tuple_str, z_isK_tuple_tup, z_isK_tuple_lst, z_isK_tuple_dic, z_isK_tuple_non, z_isK_list_int, z_isK_list_bl, z_isK_list_str, z_isK_list_tup, z_isK_list_lst, z_isK_list_dic, z_isK_list_non, z_isK_dict_int, z_isK_dict_bl, z_isK_dict_str, z_isK_dict_tup, z_isK_dict_lst, z_isK_dict_dic, z_isK_dict_non, z_items_lst, z_items_tup, z_ixt_lt h0 h1, e1]
    have c1 := cutD_len gs none (some layer)
    have c2 := cutD_len gs (some (layer + 1)) none
    have c3 := cutD_len rows none (some at_)
    have c4 := cutD_len rows (some (at_ + 1)) none
    have c5 := cutD_len rows (some (-1)) none
    repeat (refine And.intro (by first | assumption | rfl | (rw [sizeLine_eq] ; simp only [List.length_append, List.length_cons, List.length_nil, List.length_map, List.length_replicate, rep_len] ; omega) | (simp only [List.length_append, List.length_cons, List.length_nil, List.length_map, List.length_replicate, rep_len] ; omega) | omega | (rw [sizeLine_eq] ; omega)) ?_)
    intro odd ho
    have po : pu odd = true := pus_mem (by simp [pus, pu]) ho
    repeat (refine And.intro (by first | assumption | rfl | (rw [sizeLine_eq] ; simp only [List.length_append, List.length_cons, List.length_nil, List.length_map, List.length_replicate, rep_len] ; omega) | (simp only [List.length_append, List.length_cons, List.length_nil, List.length_map, List.length_replicate, rep_len] ; omega) | omega | (rw [sizeLine_eq] ; omega)) ?_)
    intro row hr
    have pw : pu row = true := pus_mem (by simp [pus, pu, pus_append, pg, po, pus_cut pg, pus_rep]) hr
    repeat (refine And.intro (by first | assumption | rfl | (rw [sizeLine_eq] ; simp only [List.length_append, List.length_cons, List.length_nil, List.length_map, List.length_replicate, rep_len] ; omega) | (simp only [List.length_append, List.length_cons, List.length_nil, List.length_map, List.length_replicate, rep_len] ; omega) | omega | (rw [sizeLine_eq] ; omega)) ?_)
    intro x hx
    refine outK.same (q x (pus_mem ?_ hx))
    simp [pus, pu, pus_append, pr, pw, pus_cut pr, pus_rev pr, pus_rep]
    exact pus_repl rfl)
theorem D__law_bent (A : Al K mg) : Def P w K mg base CX0 3 "_law_bent" ["hand", "count", "thing"] sp__law_bent := by
  obtain ⟨f, fd, Fu, hm, hb⟩ := fu__law_bent A
  exact ⟨f, fd, O__law_bent A Fu, hm, Fu.kp, hb⟩
end
end W38
namespace W38
open PySem PySem.Spec PyProof.Rows L2 DL
theorem sc_is_screen_of : FnScope ["count", "thing", "at", "state"] ["count", "thing"] (defScope s_is_screen_of) := ⟨rfl, rfl, rfl, by decide +kernel, rfl, by decide +kernel, by decide +kernel⟩
theorem ar_is_screen_of : ∀ ds S Q E, sp_is_screen_of ds S Q E → ds.length = 2 := by
  rintro ds S Q E h
  simp only [sp_is_screen_of] at h
  obtain ⟨_, h⟩ := h
  repeat (first | (obtain ⟨rfl, _⟩ := h; rfl) | (obtain ⟨_, h⟩ := h))
section
variable {P : Program} {w : World} {K : PySem.W.Frag} {mg : Str → Option Value} {base : Heap}
theorem O_is_screen_of (A : Al K mg) {f : Addr} {fd : FuncData} (Fu : FunD K "is_screen_of" "is_screen_of" (defArgs s_is_screen_of) (defBody s_is_screen_of) (defScope s_is_screen_of) [] [] f fd) : FnOk P w K mg base CX0 4 f fd ["count", "thing"] (spD K sp_is_screen_of) := by
  refine fn_d Fu sc_is_screen_of ar_is_screen_of (fun cdv A0 outer s0 H0 E0' hr => ⟨_, _,
      (db_cons (ds_if (dt_not (dt_val (de_callK (D_is_tuple A) (hr.mono (by decide)) pass0 rfl (da_cons (de_var 1) (da_cons de_int (da_cons (de_gint rfl A.c_MOST_STATES) da_nil))))))
        (db_one (ds_ret de_bl))
        db_nil)
      (db_one (ds_ret (de_cb (cr_allK K rfl) roc_all rfl A.b_all (by decide +kernel) (da_cons (de_lc false [("at", 2), ("state", 3)] rfl sc_is_screen_of.nd (di_enumK K rfl A.b_enumerate (da_cons (de_var 1) da_nil)) (blkOk_by (by kernel_rfl)) (fun _ _ _ _ _ => (dg_tupK K (n := 2) rfl (dgs_cons (dg_name (vs := [2, 3]) 2 (by decide) sc_is_screen_of.nd) (dgs_cons (dg_name (vs := [2, 3]) 3 (by decide) sc_is_screen_of.nd) dgs_nil)))) (fun _ _ _ _ _ => dts_nil) (fun _ _ _ _ _ => (de_callK (D_is_state A) (hr.mono (by decide)) pass0 rfl (da_cons (de_var 0) (da_cons (de_var 2) (da_cons (de_cb (call_lenK K) roc_len rfl A.b_len (by decide +kernel) (da_cons (de_var 1) da_nil)) (da_cons (de_var 3) da_nil))))))) da_nil))))),
      ?_⟩)
  all_goals (
    rintro ds S Q Ed ⟨count, x, rfl, hc, px, q⟩
    simp only [wSeq, wNext, wIfS, wAsg, wRet, wRetN, wDrop, wOp, wUn, wgSub, wBM, z_tyd_lst,  wCB, wCons, wNil, wVar, wVarF, wC, wgName, wTe, wAnd, wOr, DL.wNot, wAndV, wOrV, wNotV, wIf, wCh, wEq, wNe, wIsi, wIsi2, wCall, wNever, wTup, wLst, wSl, wNoPart, wPart, wYes, endD, startR, newL_f, newL_t, List.map, List.length, List.length_cons, List.length_nil, List.getElem?_cons_zero, List.getElem?_cons_succ, List.set_cons_zero, List.set_cons_succ, List.cons_append, List.nil_append, List.append_nil, List.replicate, Nat.reduceSub, Nat.reduceAdd, Option.some.injEq, ex_some_iff, ex_bl_iff, ex_int_iff, ex_tup_iff, exists_eq_left', true_and, and_true, rd_non, rd_bl, rd_int, rd_str, rd_tup, rd_lst, pl_int, pl_bl, pl_non, pl_tup, pl_lst, pl_str, isNon_int, isNon_bl, isNon_non, isNon_tup, isNon_str, isNon_ref, isNon_lst, okD_int, okD_bl, okD_non, eqD_int, eqD_bl, eqD_non, Bool.false_eq_true, if_true, if_false, ite_true, ite_false, Bool.not_true, Bool.not_false, D.int.injEq, D.tup.injEq, D.lst.injEq, D.ref.injEq, D.bl.injEq, MO.lst.injEq, List.cons.injEq, reduceCtorEq, false_and, and_false, exists_const, and_assoc, exists_and_left, exists_eq_left, wLc, wiSeq, wipeR, id, wiEnum, wiZip, wiRng1, wiRng2, wgTup, lenOk, wgCons, wgNil, wFor, wLstRg1, z_in_lst, z_in_tup, flat_int, flat_ints, inD_ints, wRev, wDic0, wExtend,  z_ix_0, z_ixt_0, z_ix_1, z_ixt_1, z_ix_2, z_ixt_2, z_ix_3, z_ixt_3, z_ix_4, z_ixt_4, z_ix_5, z_ixt_5, z_ix_6, z_ixt_6, z_ix_7, z_ixt_7, z_ix_8, z_ixt_8, z_add_int, z_add_tup, z_add_lst, z_add_str, z_mul_int, z_mul_tup, z_mul_lst, z_ib_int, z_ii_int, z_neg_int, z_len_lst, z_len_tup, z_len_str, z_abs_int, z_int_int, z_cii_int, z_tuple_lst, z_tuple_tup, z_list_lst, z_list_tup, z_cut_lst, z_cut_tup, z_rev_lst, z_rev_tup, z_isN_, z_notN_, z_isB_, z_notB_, z_w1_, z_w2_, z_in_lst, z_in_tup, z_isK_int_int, z_isK_int_bl, z_isK_int_str, z_isK_int_tup, z_isK_int_lst, z_isK_int_dic, z_isK_int_non, z_isK_bool_int, z_isK_bool_bl, z_isK_bool_str, z_isK_bool_tup, z_isK_bool_lst, z_isK_bool_dic, z_isK_bool_non, z_isK_str_int, z_isK_str_bl, z_isK_str_str, z_isK_str_tup, z_isK_str_lst, z_isK_str_dic, z_isK_str_non, z_isK_tuple_int, z_isK_tuple_bl, z_isK_tuple_str, z_isK_tuple_tup, z_isK_tuple_lst, z_isK_tuple_dic, z_isK_tuple_non, z_isK_list_int, z_isK_list_bl, z_isK_list_str, z_isK_list_tup, z_isK_list_lst, z_isK_list_dic, z_isK_list_non, z_isK_dict_int, z_isK_dict_bl, z_isK_dict_str, z_isK_dict_tup, z_isK_dict_lst, z_isK_dict_dic, z_isK_dict_non, z_items_lst, z_items_tup, sp_is_tuple, pl_of_pu px]
    cases x <;> first | exact outK.same q | skip
    rename_i rows
    simp only [wSeq, wNext, wIfS, wAsg, wRet, wRetN, wDrop, wOp, wUn, wgSub, wBM, z_tyd_lst,  wCB, wCons, wNil, wVar, wVarF, wC, wgName, wTe, wAnd, wOr, DL.wNot, wAndV, wOrV, wNotV, wIf, wCh, wEq, wNe, wIsi, wIsi2, wCall, wNever, wTup, wLst, wSl, wNoPart, wPart, wYes, endD, startR, newL_f, newL_t, List.map, List.length, List.length_cons, List.length_nil, List.getElem?_cons_zero, List.getElem?_cons_succ, List.set_cons_zero, List.set_cons_succ, List.cons_append, List.nil_append, List.append_nil, List.replicate, Nat.reduceSub, Nat.reduceAdd, Option.some.injEq, ex_some_iff, ex_bl_iff, ex_int_iff, ex_tup_iff, exists_eq_left', true_and, and_true, rd_non, rd_bl, rd_int, rd_str, rd_tup, rd_lst, pl_int, pl_bl, pl_non, pl_tup, pl_lst, pl_str, isNon_int, isNon_bl, isNon_non, isNon_tup, isNon_str, isNon_ref, isNon_lst, okD_int, okD_bl, okD_non, eqD_int, eqD_bl, eqD_non, Bool.false_eq_true, if_true, if_false, ite_true, ite_false, Bool.not_true, Bool.not_false, D.int.injEq, D.tup.injEq, D.lst.injEq, D.ref.injEq, D.bl.injEq, MO.lst.injEq, List.cons.injEq, reduceCtorEq, false_and, and_false, exists_const, and_assoc, exists_and_left, exists_eq_left, wLc, wiSeq, wipeR, id, wiEnum, wiZip, wiRng1, wiRng2, wgTup, lenOk, wgCons, wgNil, wFor, wLstRg1, z_in_lst, z_in_tup, flat_int, flat_ints, inD_ints, wRev, wDic0, wExtend,  z_ix_0, z_ixt_0, z_ix_1, z_ixt_1, z_ix_2, z_ixt_2, z_ix_3, z_ixt_3, z_ix_4, z_ixt_4, z_ix_5, z_ixt_5, z_ix_6, z_ixt_6, z_ix_7, z_ixt_7, z_ix_8, z_ixt_8, z_add_int, z_add_tup, z_add_lst, z_add_str, z_mul_int, z_mul_tup, z_mul_lst, z_ib_int, z_ii_int, z_neg_int, z_len_lst, z_len_tup, z_len_str, z_abs_int, z_int_int, z_cii_int, z_tuple_lst, z_tuple_tup, z_list_lst, z_list_tup, z_cut_lst, z_cut_tup, z_rev_lst, z_rev_tup, z_isN_, z_notN_, z_isB_, z_notB_, z_w1_, z_w2_, z_in_lst, z_in_tup, z_isK_int_int, z_isK_int_bl, z_isK_int_str, z_isK_int_tup, z_isK_int_lst, z_isK_int_dic, z_isK_int_non, z_isK_bool_int, z_isK_bool_bl, z_isK_bool_str, z_isK_bool_tup, z_isK_bool_lst, z_isK_bool_dic, z_isK_bool_non, z_isK_str_int, z_isK_str_bl, z_isK_str_str, z_isK_str_tup, z_isK_str_lst, z_isK_str_dic, z_isK_str_non, z_isK_tuple_int, z_isK_tuple_bl, z_isK_tuple_str, z_isK_tuple_tup, z_isK_tuple_lst, z_isK_tuple_dic, z_isK_tuple_non, z_isK_list_int, z_isK_list_bl, z_isK_list_str, z_isK_list_tup, z_isK_list_lst, z_isK_list_dic, z_isK_list_non, z_isK_dict_int, z_isK_dict_bl, z_isK_dict_str, z_isK_dict_tup, z_isK_dict_lst, z_isK_dict_dic, z_isK_dict_non, z_items_lst, z_items_tup, isTup]
    have pr : pus rows = true := by simpa [pu] using px
    refine ite_bl (fun h => ?_) (fun h => ?_)
    · have : isScreenOf count (.tup rows) = false := by
        simp only [isScreenOf, Bool.and_eq_false_iff, decide_eq_false_iff_not]
        simp at h
        omega
      rw [this] at q
      exact outK.same q
    · have hl : 1 ≤ rows.length ∧ rows.length ≤ 3000 := by
        simp at h
        omega
      refine compL_map (fun d => D.bl (match d with | .tup [.int i, y] => isState count i rows.length y | _ => false)) noG_any (le_sz (by rw [enumD_length]; omega)) (fun d hd S' sub N hN => ?_) ?_
      · obtain ⟨i, hi, rfl⟩ := enumD_mem hd
        have pd : pu (rows.getD i .non) = true := pus_getD pr i
        simp only [wSeq, wNext, wIfS, wAsg, wRet, wRetN, wDrop, wOp, wUn, wgSub, wBM, z_tyd_lst,  wCB, wCons, wNil, wVar, wVarF, wC, wgName, wTe, wAnd, wOr, DL.wNot, wAndV, wOrV, wNotV, wIf, wCh, wEq, wNe, wIsi, wIsi2, wCall, wNever, wTup, wLst, wSl, wNoPart, wPart, wYes, endD, startR, newL_f, newL_t, List.map, List.length, List.length_cons, List.length_nil, List.getElem?_cons_zero, List.getElem?_cons_succ, List.set_cons_zero, List.set_cons_succ, List.cons_append, List.nil_append, List.append_nil, List.replicate, Nat.reduceSub, Nat.reduceAdd, Option.some.injEq, ex_some_iff, ex_bl_iff, ex_int_iff, ex_tup_iff, exists_eq_left', true_and, and_true, rd_non, rd_bl, rd_int, rd_str, rd_tup, rd_lst, pl_int, pl_bl, pl_non, pl_tup, pl_lst, pl_str, isNon_int, isNon_bl, isNon_non, isNon_tup, isNon_str, isNon_ref, isNon_lst, okD_int, okD_bl, okD_non, eqD_int, eqD_bl, eqD_non, Bool.false_eq_true, if_true, if_false, ite_true, ite_false, Bool.not_true, Bool.not_false, D.int.injEq, D.tup.injEq, D.lst.injEq, D.ref.injEq, D.bl.injEq, MO.lst.injEq, List.cons.injEq, reduceCtorEq, false_and, and_false, exists_const, and_assoc, exists_and_left, exists_eq_left, wLc, wiSeq, wipeR, id, wiEnum, wiZip, wiRng1, wiRng2, wgTup, lenOk, wgCons, wgNil, wFor, wLstRg1, z_in_lst, z_in_tup, flat_int, flat_ints, inD_ints, wRev, wDic0, wExtend,  z_ix_0, z_ixt_0, z_ix_1, z_ixt_1, z_ix_2, z_ixt_2, z_ix_3, z_ixt_3, z_ix_4, z_ixt_4, z_ix_5, z_ixt_5, z_ix_6, z_ixt_6, z_ix_7, z_ixt_7, z_ix_8, z_ixt_8, z_add_int, z_add_tup, z_add_lst, z_add_str, z_mul_int, z_mul_tup, z_mul_lst, z_ib_int, z_ii_int, z_neg_int, z_len_lst, z_len_tup, z_len_str, z_abs_int, z_int_int, z_cii_int, z_tuple_lst, z_tuple_tup, z_list_lst, z_list_tup, z_cut_lst, z_cut_tup, z_rev_lst, z_rev_tup, z_isN_, z_notN_, z_isB_, z_notB_, z_w1_, z_w2_, z_in_lst, z_in_tup, z_isK_int_int, z_isK_int_bl, z_isK_int_str, z_isK_int_tup, z_isK_int_lst, z_isK_int_dic, z_isK_int_non, z_isK_bool_int, z_isK_bool_bl, z_isK_bool_str, z_isK_bool_tup, z_isK_bool_lst, z_isK_bool_dic, z_isK_bool_non, z_isK_str_int, z_isK_str_bl, z_isK_str_str, z_isK_str_tup, z_isK_str_lst, z_isK_str_dic, z_isK_str_non, z_isK_tuple_int, z_isK_tuple_bl, z_isK_tuple_str, z_isK_tuple_tup, z_isK_tuple_lst, z_isK_tuple_dic, z_isK_tuple_non, z_isK_list_int, z_isK_list_bl, z_isK_list_str, z_isK_list_tup, z_isK_list_lst, z_isK_list_dic, z_isK_list_non, z_isK_dict_int, z_isK_dict_bl, z_isK_dict_str, z_isK_dict_tup, z_isK_dict_lst, z_isK_dict_dic, z_isK_dict_non, z_items_lst, z_items_tup, sp_is_state, pd]
        exact ⟨hc.1, hc.2, hN⟩
      · rw [map_bl]
        refine cAll_bl (outK.same ?_)
        rw [all_map_id]
        simp only [isScreenOf, decide_eq_true hl.1, decide_eq_true hl.2, Bool.true_and] at q
        rw [enumD_all]
        exact q)
theorem D_is_screen_of (A : Al K mg) : Def P w K mg base CX0 4 "is_screen_of" ["count", "thing"] sp_is_screen_of := by
  obtain ⟨f, fd, Fu, hm, hb⟩ := fu_is_screen_of A
  exact ⟨f, fd, O_is_screen_of A Fu, hm, Fu.kp, hb⟩
end
end W38
namespace W38
open PySem PySem.Spec PyProof.Rows L2 DL
theorem sc_is_screen : FnScope ["count", "thing"] ["count", "thing"] (defScope s_is_screen) := ⟨rfl, rfl, rfl, by decide +kernel, rfl, by decide +kernel, by decide +kernel⟩
theorem ar_is_screen : ∀ ds S Q E, sp_is_screen ds S Q E → ds.length = 2 := by
  rintro ds S Q E h
  simp only [sp_is_screen] at h
  obtain ⟨_, h⟩ := h
  repeat (first | (obtain ⟨rfl, _⟩ := h; rfl) | (obtain ⟨_, h⟩ := h))
section
variable {P : Program} {w : World} {K : PySem.W.Frag} {mg : Str → Option Value} {base : Heap}
theorem O_is_screen (A : Al K mg) {f : Addr} {fd : FuncData} (Fu : FunD K "is_screen" "is_screen" (defArgs s_is_screen) (defBody s_is_screen) (defScope s_is_screen) [] [] f fd) : FnOk P w K mg base CX0 5 f fd ["count", "thing"] (spD K sp_is_screen) := by
  refine fn_d Fu sc_is_screen ar_is_screen (fun cdv A0 outer s0 H0 E0' hr => ⟨_, _,
      (db_cons (ds_expr (de_callK (D_check_count A) (hr.mono (by decide)) pass0 rfl (da_cons (de_var 0) da_nil)))
      (db_one (ds_ret (de_callK (D_is_screen_of A) (hr.mono (by decide)) pass0 rfl (da_cons (de_var 0) (da_cons (de_var 1) da_nil)))))),
      ?_⟩)
  all_goals (
    rintro ds S Q Ed ⟨count, x, rfl, hc, px, q⟩
    simp only [wSeq, wNext, wIfS, wAsg, wRet, wRetN, wDrop, wOp, wUn, wgSub, wBM, z_tyd_lst,  wCB, wCons, wNil, wVar, wVarF, wC, wgName, wTe, wAnd, wOr, DL.wNot, wAndV, wOrV, wNotV, wIf, wCh, wEq, wNe, wIsi, wIsi2, wCall, wNever, wTup, wLst, wSl, wNoPart, wPart, wYes, endD, startR, newL_f, newL_t, List.map, List.length, List.length_cons, List.length_nil, List.getElem?_cons_zero, List.getElem?_cons_succ, List.set_cons_zero, List.set_cons_succ, List.cons_append, List.nil_append, List.append_nil, List.replicate, Nat.reduceSub, Nat.reduceAdd, Option.some.injEq, ex_some_iff, ex_bl_iff, ex_int_iff, ex_tup_iff, exists_eq_left', true_and, and_true, rd_non, rd_bl, rd_int, rd_str, rd_tup, rd_lst, pl_int, pl_bl, pl_non, pl_tup, pl_lst, pl_str, isNon_int, isNon_bl, isNon_non, isNon_tup, isNon_str, isNon_ref, isNon_lst, okD_int, okD_bl, okD_non, eqD_int, eqD_bl, eqD_non, Bool.false_eq_true, if_true, if_false, ite_true, ite_false, Bool.not_true, Bool.not_false, D.int.injEq, D.tup.injEq, D.lst.injEq, D.ref.injEq, D.bl.injEq, MO.lst.injEq, List.cons.injEq, reduceCtorEq, false_and, and_false, exists_const, and_assoc, exists_and_left, exists_eq_left, wLc, wiSeq, wipeR, id, wiEnum, wiZip, wiRng1, wiRng2, wgTup, lenOk, wgCons, wgNil, wFor, wLstRg1, z_in_lst, z_in_tup, flat_int, flat_ints, inD_ints, wRev, wDic0, wExtend,  z_ix_0, z_ixt_0, z_ix_1, z_ixt_1, z_ix_2, z_ixt_2, z_ix_3, z_ixt_3, z_ix_4, z_ixt_4, z_ix_5, z_ixt_5, z_ix_6, z_ixt_6, z_ix_7, z_ixt_7, z_ix_8, z_ixt_8, z_add_int, z_add_tup, z_add_lst, z_add_str, z_mul_int, z_mul_tup, z_mul_lst, z_ib_int, z_ii_int, z_neg_int, z_len_lst, z_len_tup, z_len_str, z_abs_int, z_int_int, z_cii_int, z_tuple_lst, z_tuple_tup, z_list_lst, z_list_tup, z_cut_lst, z_cut_tup, z_rev_lst, z_rev_tup, z_isN_, z_notN_, z_isB_, z_notB_, z_w1_, z_w2_, z_in_lst, z_in_tup, z_isK_int_int, z_isK_int_bl, z_isK_int_str, z_isK_int_tup, z_isK_int_lst, z_isK_int_dic, z_isK_int_non, z_isK_bool_int, z_isK_bool_bl, z_isK_bool_str, z_isK_bool_tup, z_isK_bool_lst, z_isK_bool_dic, z_isK_bool_non, z_isK_str_int, z_isK_str_bl, z_isK_str_str, z_isK_str_tup, z_isK_str_lst, z_isK_str_dic, z_isK_str_non, z_isK_tuple_int, z_isK_tuple_bl, z_isK_tuple_str, z_isK_tuple_tup, z_isK_tuple_lst, z_isK_tuple_dic, z_isK_tuple_non, z_isK_list_int, z_isK_list_bl, z_isK_list_str, z_isK_list_tup, z_isK_list_lst, z_isK_list_dic, z_isK_list_non, z_isK_dict_int, z_isK_dict_bl, z_isK_dict_str, z_isK_dict_tup, z_isK_dict_lst, z_isK_dict_dic, z_isK_dict_non, z_items_lst, z_items_tup, sp_check_count, sp_is_screen_of, px]
    exact ⟨hc.1, hc.2, by omega, hc.2, outK.same q⟩)
theorem D_is_screen (A : Al K mg) : Def P w K mg base CX0 5 "is_screen" ["count", "thing"] sp_is_screen := by
  obtain ⟨f, fd, Fu, hm, hb⟩ := fu_is_screen A
  exact ⟨f, fd, O_is_screen A Fu, hm, Fu.kp, hb⟩
end
end W38
namespace W38
open PySem PySem.Spec PyProof.Rows L2 DL
theorem sc_passes_screen : FnScope ["count", "screen", "order"] ["count", "screen", "order"] (defScope s_passes_screen) := ⟨rfl, rfl, rfl, by decide +kernel, rfl, by decide +kernel, by decide +kernel⟩
theorem ar_passes_screen : ∀ ds S Q E, sp_passes_screen ds S Q E → ds.length = 3 := by
  rintro ds S Q E h
  simp only [sp_passes_screen] at h
  obtain ⟨_, h⟩ := h
  repeat (first | (obtain ⟨rfl, _⟩ := h; rfl) | (obtain ⟨_, h⟩ := h))
section
variable {P : Program} {w : World} {K : PySem.W.Frag} {mg : Str → Option Value} {base : Heap}
theorem O_passes_screen (A : Al K mg) {f : Addr} {fd : FuncData} (Fu : FunD K "passes_screen" "passes_screen" (defArgs s_passes_screen) (defBody s_passes_screen) (defScope s_passes_screen) [] [] f fd) : FnOk P w K mg base CX0 5 f fd ["count", "screen", "order"] (spD K sp_passes_screen) := by
  refine fn_d Fu sc_passes_screen ar_passes_screen (fun cdv A0 outer s0 H0 E0' hr => ⟨_, _,
      (db_cons (ds_expr (de_callK (D_check_count A) (hr.mono (by decide)) pass0 rfl (da_cons (de_var 0) da_nil)))
      (db_cons (ds_if (dt_not (dt_val (de_callK (D_is_screen_of A) (hr.mono (by decide)) pass0 rfl (da_cons (de_var 0) (da_cons (de_var 1) da_nil)))))
        (db_one ds_never)
        db_nil)
      (db_cons (ds_if (dt_not (dt_val (de_callK (D_is_order_of A) (hr.mono (by decide)) pass0 rfl (da_cons (de_var 0) (da_cons (de_var 2) da_nil)))))
        (db_one ds_never)
        db_nil)
      (db_one (ds_ret (de_callK (D_passing A) (hr.mono (by decide)) pass0 rfl (da_cons (de_var 1) (da_cons (de_var 2) da_nil)))))))),
      ?_⟩)
  all_goals (
    rintro ds S Q Ed ⟨count, rows, order, rfl, hc, pr, hs, hp, q⟩
    simp only [wSeq, wNext, wIfS, wAsg, wRet, wRetN, wDrop, wOp, wUn, wgSub, wBM, z_tyd_lst,  wCB, wCons, wNil, wVar, wVarF, wC, wgName, wTe, wAnd, wOr, DL.wNot, wAndV, wOrV, wNotV, wIf, wCh, wEq, wNe, wIsi, wIsi2, wCall, wNever, wTup, wLst, wSl, wNoPart, wPart, wYes, endD, startR, newL_f, newL_t, List.map, List.length, List.length_cons, List.length_nil, List.getElem?_cons_zero, List.getElem?_cons_succ, List.set_cons_zero, List.set_cons_succ, List.cons_append, List.nil_append, List.append_nil, List.replicate, Nat.reduceSub, Nat.reduceAdd, Option.some.injEq, ex_some_iff, ex_bl_iff, ex_int_iff, ex_tup_iff, exists_eq_left', true_and, and_true, rd_non, rd_bl, rd_int, rd_str, rd_tup, rd_lst, pl_int, pl_bl, pl_non, pl_tup, pl_lst, pl_str, isNon_int, isNon_bl, isNon_non, isNon_tup, isNon_str, isNon_ref, isNon_lst, okD_int, okD_bl, okD_non, eqD_int, eqD_bl, eqD_non, Bool.false_eq_true, if_true, if_false, ite_true, ite_false, Bool.not_true, Bool.not_false, D.int.injEq, D.tup.injEq, D.lst.injEq, D.ref.injEq, D.bl.injEq, MO.lst.injEq, List.cons.injEq, reduceCtorEq, false_and, and_false, exists_const, and_assoc, exists_and_left, exists_eq_left, wLc, wiSeq, wipeR, id, wiEnum, wiZip, wiRng1, wiRng2, wgTup, lenOk, wgCons, wgNil, wFor, wLstRg1, z_in_lst, z_in_tup, flat_int, flat_ints, inD_ints, wRev, wDic0, wExtend,  z_ix_0, z_ixt_0, z_ix_1, z_ixt_1, z_ix_2, z_ixt_2, z_ix_3, z_ixt_3, z_ix_4, z_ixt_4, z_ix_5, z_ixt_5, z_ix_6, z_ixt_6, z_ix_7, z_ixt_7, z_ix_8, z_ixt_8, z_add_int, z_add_tup, z_add_lst, z_add_str, z_mul_int, z_mul_tup, z_mul_lst, z_ib_int, z_ii_int, z_neg_int, z_len_lst, z_len_tup, z_len_str, z_abs_int, z_int_int, z_cii_int, z_tuple_lst, z_tuple_tup, z_list_lst, z_list_tup, z_cut_lst, z_cut_tup, z_rev_lst, z_rev_tup, z_isN_, z_notN_, z_isB_, z_notB_, z_w1_, z_w2_, z_in_lst, z_in_tup, z_isK_int_int, z_isK_int_bl, z_isK_int_str, z_isK_int_tup, z_isK_int_lst, z_isK_int_dic, z_isK_int_non, z_isK_bool_int, z_isK_bool_bl, z_isK_bool_str, z_isK_bool_tup, z_isK_bool_lst, z_isK_bool_dic, z_isK_bool_non, z_isK_str_int, z_isK_str_bl, z_isK_str_str, z_isK_str_tup, z_isK_str_lst, z_isK_str_dic, z_isK_str_non, z_isK_tuple_int, z_isK_tuple_bl, z_isK_tuple_str, z_isK_tuple_tup, z_isK_tuple_lst, z_isK_tuple_dic, z_isK_tuple_non, z_isK_list_int, z_isK_list_bl, z_isK_list_str, z_isK_list_tup, z_isK_list_lst, z_isK_list_dic, z_isK_list_non, z_isK_dict_int, z_isK_dict_bl, z_isK_dict_str, z_isK_dict_tup, z_isK_dict_lst, z_isK_dict_dic, z_isK_dict_non, z_items_lst, z_items_tup, sp_check_count, sp_is_screen_of, sp_is_order_of, sp_passing, pu, pr, hs]
    exact ⟨hc.1, hc.2, by omega, hc.2, order, rfl, by omega, hc.2, hp, count, order, rfl, hs, fun l hl => permN_mem hp hl, outK.same q⟩)
theorem D_passes_screen (A : Al K mg) : Def P w K mg base CX0 5 "passes_screen" ["count", "screen", "order"] sp_passes_screen := by
  obtain ⟨f, fd, Fu, hm, hb⟩ := fu_passes_screen A
  exact ⟨f, fd, O_passes_screen A Fu, hm, Fu.kp, hb⟩
end
end W38
namespace W38
open PySem PySem.Spec PyProof.Rows L2 DL
theorem sc_law : FnScope ["script", "hand", "known", "turn", "count", "screen", "thing", "flag", "every", "order", "again"] ["script"] (defScope s_law) := ⟨rfl, rfl, rfl, by decide +kernel, rfl, by decide +kernel, by decide +kernel⟩
theorem ar_law : ∀ ds S Q E, sp_law ds S Q E → ds.length = 1 := by
  rintro ds S Q E h
  simp only [sp_law] at h
  obtain ⟨_, h⟩ := h
  repeat (first | (obtain ⟨rfl, _⟩ := h; rfl) | (obtain ⟨_, h⟩ := h))
section
variable {P : Program} {w : World} {K : PySem.W.Frag} {mg : Str → Option Value} {base : Heap}
theorem O_law (A : Al K mg) {f : Addr} {fd : FuncData} (Fu : FunD K "law" "law" (defArgs s_law) (defBody s_law) (defScope s_law) [] [] f fd) : FnOk P w K mg base CX0 6 f fd ["script"] (spD K sp_law) := by
  refine fn_d Fu sc_law ar_law (fun cdv A0 outer s0 H0 E0' hr => ⟨_, _,
      (db_cons (ds_set 1 sc_law.nd (de_callK (V__law_hand A) (hr.mono (by decide)) pass0 rfl (da_cons (de_var 0) da_nil)))
      (db_cons (ds_set 2 sc_law.nd (de_tup (da_cons (de_tup (da_cons de_int (da_cons de_int da_nil))) (da_cons (de_tup (da_cons de_non (da_cons de_int da_nil))) (da_cons (de_tup (da_cons de_int (da_cons de_non da_nil))) (da_cons (de_tup (da_cons de_non (da_cons de_non da_nil))) da_nil))))))
      (db_cons (ds_if (dt_w (dw_or (dt_cmp op_notBl ro_notB (de_callK (D_is_screen A) (hr.mono (by decide)) pass0 rfl (da_cons de_int (da_cons (de_var 2) da_nil))) de_bl (nomark _)) (dw_or1 (dt_not (dt_val (de_cb (cr_allK K rfl) roc_all rfl A.b_all (by decide +kernel) (da_cons (de_lc false [("order", 9)] rfl sc_law.nd (di_seqK K (de_tup (da_cons (de_tup (da_cons de_int (da_cons de_int da_nil))) (da_cons (de_tup (da_cons de_int (da_cons de_int da_nil))) da_nil)))) (blkOk_by (by kernel_rfl)) (fun _ _ _ _ _ => (dg_name (vs := [9]) 9 (by decide) sc_law.nd)) (fun _ _ _ _ _ => dts_nil) (fun _ _ _ _ _ => (de_callK (D_passes_screen A) (hr.mono (by decide)) pass0 rfl (da_cons de_int (da_cons (de_var 2) (da_cons (de_var 9) da_nil)))))) da_nil)))))))
        (db_one (ds_ret de_bl))
        db_nil)
      (db_cons (ds_if (dt_w (dw_or (dt_cmp op_notBl ro_notB (de_callK (D_is_screen A) (hr.mono (by decide)) pass0 rfl (da_cons de_int (da_cons (de_tup (da_cons (de_tup (da_cons de_int (da_cons de_int da_nil))) (da_cons (de_tup (da_cons de_non (da_cons de_non da_nil))) da_nil))) da_nil))) de_bl (nomark _)) (dw_or1 (dt_cmp op_notBl ro_notB (de_callK (D_is_screen A) (hr.mono (by decide)) pass0 rfl (da_cons de_int (da_cons (de_tup (da_cons (de_tup (da_cons de_non da_nil)) da_nil)) da_nil))) de_bl (nomark _)))))
        (db_one (ds_ret de_bl))
        db_nil)
      (db_cons (ds_for (vs := [3]) PassesOwn.never rfl (di_range1 rfl A.b_range (da_cons de_int da_nil)) (dg_name (vs := [3]) 3 (by decide) sc_law.nd)
        (db_cons (ds_set 4 sc_law.nd (de_op (op_addK K) (ro_add false) de_int (de_callK (V__law_draw A) (hr.mono (by decide)) pass0 rfl (da_cons (de_var 1) (da_cons de_int da_nil)))))
        (db_cons (ds_set 5 sc_law.nd (de_callK (D__law_screen A) (hr.mono (by decide)) pass0 rfl (da_cons (de_var 1) (da_cons (de_var 4) da_nil))))
        (db_cons (ds_for (vs := [6]) PassesOwn.never rfl (di_seqK K (de_op (op_addK K) (ro_add false) (de_lst false (da_cons (de_var 5) da_nil)) (de_lc false [("again", 10)] rfl sc_law.nd (di_range1 rfl A.b_range (da_cons de_int da_nil)) (blkOk_by (by kernel_rfl)) (fun _ _ _ _ _ => (dg_name (vs := [10]) 10 (by decide) sc_law.nd)) (fun _ _ _ _ _ => dts_nil) (fun _ _ _ _ _ => (de_callK (D__law_bent A) (hr.mono (by decide)) pass0 rfl (da_cons (de_var 1) (da_cons (de_var 4) (da_cons (de_var 5) da_nil)))))))) (dg_name (vs := [6]) 6 (by decide) sc_law.nd)
          (db_cons (ds_set 7 sc_law.nd (de_callK (D_is_screen A) (hr.mono (by decide)) pass0 rfl (da_cons (de_var 4) (da_cons (de_var 6) da_nil))))
          (db_one (ds_if (dt_w (dw_or (dt_not (dt_val (de_isiK K .bool rfl A.b_isinstance (de_var 7) A.b_bool))) (dw_or1 (dt_cmp (op_neK K hr.units) ro_ne (de_var 7) (de_callK (D__law_is_screen A) (hr.mono (by decide)) pass0 rfl (da_cons (de_var 4) (da_cons (de_var 6) da_nil))) (nomark _)))))
            (db_one (ds_ret de_bl))
            db_nil))))
        (db_cons (ds_set 8 sc_law.nd (de_if (dt_cmp op_lt ro_IB (de_var 4) de_int (nomark _)) (de_callK (D__law_orders A) (hr.mono (by decide)) pass0 rfl (da_cons (de_var 4) da_nil)) (de_lc false [("again", 10)] rfl sc_law.nd (di_range1 rfl A.b_range (da_cons de_int da_nil)) (blkOk_by (by kernel_rfl)) (fun _ _ _ _ _ => (dg_name (vs := [10]) 10 (by decide) sc_law.nd)) (fun _ _ _ _ _ => dts_nil) (fun _ _ _ _ _ => (de_callK (D__law_shuffled A) (hr.mono (by decide)) pass0 rfl (da_cons (de_var 1) (da_cons (de_var 4) da_nil)))))))
        (db_one (ds_for (vs := [9]) PassesOwn.never rfl (di_seqK K (de_var 8)) (dg_name (vs := [9]) 9 (by decide) sc_law.nd)
          (db_one (ds_if (dt_not (dt_val (de_callK (D__law_is A) (hr.mono (by decide)) pass0 rfl (da_cons (de_callK (D_passes_screen A) (hr.mono (by decide)) pass0 rfl (da_cons (de_var 4) (da_cons (de_var 5) (da_cons (de_var 9) da_nil)))) (da_cons (de_callK (D__law_passes A) (hr.mono (by decide)) pass0 rfl (da_cons (de_var 5) (da_cons (de_var 9) da_nil))) da_nil)))))
            (db_one (ds_ret de_bl))
            db_nil)))))))))
      (db_one (ds_ret de_bl))))))),
      ?_⟩)
  all_goals (
    rintro ds S Q Ed ⟨ns, rfl, no, q⟩
    simp only [wSeq, wNext, wIfS, wAsg, wRet, wRetN, wDrop, wOp, wUn, wgSub, wBM, z_tyd_lst,  wCB, wCons, wNil, wVar, wVarF, wC, wgName, wTe, wAnd, wOr, DL.wNot, wAndV, wOrV, wNotV, wIf, wCh, wEq, wNe, wIsi, wIsi2, wCall, wNever, wTup, wLst, wSl, wNoPart, wPart, wYes, endD, startR, newL_f, newL_t, List.map, List.length, List.length_cons, List.length_nil, List.getElem?_cons_zero, List.getElem?_cons_succ, List.set_cons_zero, List.set_cons_succ, List.cons_append, List.nil_append, List.append_nil, List.replicate, Nat.reduceSub, Nat.reduceAdd, Option.some.injEq, ex_some_iff, ex_bl_iff, ex_int_iff, ex_tup_iff, exists_eq_left', true_and, and_true, rd_non, rd_bl, rd_int, rd_str, rd_tup, rd_lst, pl_int, pl_bl, pl_non, pl_tup, pl_lst, pl_str, isNon_int, isNon_bl, isNon_non, isNon_tup, isNon_str, isNon_ref, isNon_lst, okD_int, okD_bl, okD_non, eqD_int, eqD_bl, eqD_non, Bool.false_eq_true, if_true, if_false, ite_true, ite_false, Bool.not_true, Bool.not_false, D.int.injEq, D.tup.injEq, D.lst.injEq, D.ref.injEq, D.bl.injEq, MO.lst.injEq, List.cons.injEq, reduceCtorEq, false_and, and_false, exists_const, and_assoc, exists_and_left, exists_eq_left, wLc, wiSeq, wipeR, id, wiEnum, wiZip, wiRng1, wiRng2, wgTup, lenOk, wgCons, wgNil, wFor, wLstRg1, z_in_lst, z_in_tup, flat_int, flat_ints, inD_ints, wRev, wDic0, wExtend,  z_ix_0, z_ixt_0, z_ix_1, z_ixt_1, z_ix_2, z_ixt_2, z_ix_3, z_ixt_3, z_ix_4, z_ixt_4, z_ix_5, z_ixt_5, z_ix_6, z_ixt_6, z_ix_7, z_ixt_7, z_ix_8, z_ixt_8, z_add_int, z_add_tup, z_add_lst, z_add_str, z_mul_int, z_mul_tup, z_mul_lst, z_ib_int, z_ii_int, z_neg_int, z_len_lst, z_len_tup, z_len_str, z_abs_int, z_int_int, z_cii_int, z_tuple_lst, z_tuple_tup, z_list_lst, z_list_tup, z_cut_lst, z_cut_tup, z_rev_lst, z_rev_tup, z_isN_, z_notN_, z_isB_, z_notB_, z_w1_, z_w2_, z_in_lst, z_in_tup, z_isK_int_int, z_isK_int_bl, z_isK_int_str, z_isK_int_tup, z_isK_int_lst, z_isK_int_dic, z_isK_int_non, z_isK_bool_int, z_isK_bool_bl, z_isK_bool_str, z_isK_bool_tup, z_isK_bool_lst, z_isK_bool_dic, z_isK_bool_non, z_isK_str_int, z_isK_str_bl, z_isK_str_str, z_isK_str_tup, z_isK_str_lst, z_isK_str_dic, z_isK_str_non, z_isK_tuple_int, z_isK_tuple_bl, z_isK_tuple_str, z_isK_tuple_tup, z_isK_tuple_lst, z_isK_tuple_dic, z_isK_tuple_non, z_isK_list_int, z_isK_list_bl, z_isK_list_str, z_isK_list_tup, z_isK_list_lst, z_isK_list_dic, z_isK_list_non, z_isK_dict_int, z_isK_dict_bl, z_isK_dict_str, z_isK_dict_tup, z_isK_dict_lst, z_isK_dict_dic, z_isK_dict_non, z_items_lst, z_items_tup, handSp, sp_is_screen, sp_passes_screen, pu, pus]
    refine ⟨ns, rfl, no, fun t ht => ?_⟩
    have k1 : isScreenOf 2 (.tup [.tup [.int 1, .int 2], .tup [.non, .int 3], .tup [.int 3, .non], .tup [.non, .non]]) = true := by decide +kernel
    have k2 : isScreenOf 2 (.tup [.tup [.int 0, .int 1], .tup [.non, .non]]) = false := by decide +kernel
    have k4 : passD [.tup [.int 1, .int 2], .tup [.non, .int 3], .tup [.int 3, .non], .tup [.non, .non]] [0, 1] = true := by decide +kernel
    have k5 : passD [.tup [.int 1, .int 2], .tup [.non, .int 3], .tup [.int 3, .non], .tup [.non, .non]] [1, 0] = true := by decide +kernel
    have k3 : isScreenOf 1 (.tup [.tup [.non]]) = true := by decide +kernel
    repeat (refine And.intro (by first | assumption | rfl | (rw [sizeLine_eq] ; simp only [List.length_append, List.length_cons, List.length_nil, List.length_map, List.length_replicate, rep_len] ; omega) | (simp only [List.length_append, List.length_cons, List.length_nil, List.length_map, List.length_replicate, rep_len] ; omega) | omega | (rw [sizeLine_eq] ; omega)) ?_)
    simp only [wSeq, wNext, wIfS, wAsg, wRet, wRetN, wDrop, wOp, wUn, wgSub, wBM, z_tyd_lst,  wCB, wCons, wNil, wVar, wVarF, wC, wgName, wTe, wAnd, wOr, DL.wNot, wAndV, wOrV, wNotV, wIf, wCh, wEq, wNe, wIsi, wIsi2, wCall, wNever, wTup, wLst, wSl, wNoPart, wPart, wYes, endD, startR, newL_f, newL_t, List.map, List.length, List.length_cons, List.length_nil, List.getElem?_cons_zero, List.getElem?_cons_succ, List.set_cons_zero, List.set_cons_succ, List.cons_append, List.nil_append, List.append_nil, List.replicate, Nat.reduceSub, Nat.reduceAdd, Option.some.injEq, ex_some_iff, ex_bl_iff, ex_int_iff, ex_tup_iff, exists_eq_left', true_and, and_true, rd_non, rd_bl, rd_int, rd_str, rd_tup, rd_lst, pl_int, pl_bl, pl_non, pl_tup, pl_lst, pl_str, isNon_int, isNon_bl, isNon_non, isNon_tup, isNon_str, isNon_ref, isNon_lst, okD_int, okD_bl, okD_non, eqD_int, eqD_bl, eqD_non, Bool.false_eq_true, if_true, if_false, ite_true, ite_false, Bool.not_true, Bool.not_false, D.int.injEq, D.tup.injEq, D.lst.injEq, D.ref.injEq, D.bl.injEq, MO.lst.injEq, List.cons.injEq, reduceCtorEq, false_and, and_false, exists_const, and_assoc, exists_and_left, exists_eq_left, wLc, wiSeq, wipeR, id, wiEnum, wiZip, wiRng1, wiRng2, wgTup, lenOk, wgCons, wgNil, wFor, wLstRg1, z_in_lst, z_in_tup, flat_int, flat_ints, inD_ints, wRev, wDic0, wExtend,  z_ix_0, z_ixt_0, z_ix_1, z_ixt_1, z_ix_2, z_ixt_2, z_ix_3, z_ixt_3, z_ix_4, z_ixt_4, z_ix_5, z_ixt_5, z_ix_6, z_ixt_6, z_ix_7, z_ixt_7, z_ix_8, z_ixt_8, z_add_int, z_add_tup, z_add_lst, z_add_str, z_mul_int, z_mul_tup, z_mul_lst, z_ib_int, z_ii_int, z_neg_int, z_len_lst, z_len_tup, z_len_str, z_abs_int, z_int_int, z_cii_int, z_tuple_lst, z_tuple_tup, z_list_lst, z_list_tup, z_cut_lst, z_cut_tup, z_rev_lst, z_rev_tup, z_isN_, z_notN_, z_isB_, z_notB_, z_w1_, z_w2_, z_in_lst, z_in_tup, z_isK_int_int, z_isK_int_bl, z_isK_int_str, z_isK_int_tup, z_isK_int_lst, z_isK_int_dic, z_isK_int_non, z_isK_bool_int, z_isK_bool_bl, z_isK_bool_str, z_isK_bool_tup, z_isK_bool_lst, z_isK_bool_dic, z_isK_bool_non, z_isK_str_int, z_isK_str_bl, z_isK_str_str, z_isK_str_tup, z_isK_str_lst, z_isK_str_dic, z_isK_str_non, z_isK_tuple_int, z_isK_tuple_bl, z_isK_tuple_str, z_isK_tuple_tup, z_isK_tuple_lst, z_isK_tuple_dic, z_isK_tuple_non, z_isK_list_int, z_isK_list_bl, z_isK_list_str, z_isK_list_tup, z_isK_list_lst, z_isK_list_dic, z_isK_list_non, z_isK_dict_int, z_isK_dict_bl, z_isK_dict_str, z_isK_dict_tup, z_isK_dict_lst, z_isK_dict_dic, z_isK_dict_non, z_items_lst, z_items_tup, k1, k2, k3]
    repeat (refine And.intro (by first | assumption | rfl | (rw [sizeLine_eq] ; simp only [List.length_append, List.length_cons, List.length_nil, List.length_map, List.length_replicate, rep_len] ; omega) | (simp only [List.length_append, List.length_cons, List.length_nil, List.length_map, List.length_replicate, rep_len] ; omega) | omega | (rw [sizeLine_eq] ; omega)) ?_)
    have gt : (S.set t (.opq (opq2 JH))) t = some (.opq (opq2 JH)) := MS.set_same
    have gs : Sub S (S.set t (.opq (opq2 JH))) := Sub.set ht
    generalize S.set t (.opq (opq2 JH)) = S1 at gt gs ⊢
    refine compL_map (fun _ => D.bl true) noG_any (le_sz (by decide)) (fun d hd S' sub N hN => ?_) ?_
    · simp only [List.mem_cons, List.not_mem_nil, or_false] at hd
      rcases hd with rfl | rfl
      · simp only [wSeq, wNext, wIfS, wAsg, wRet, wRetN, wDrop, wOp, wUn, wgSub, wBM, z_tyd_lst,  wCB, wCons, wNil, wVar, wVarF, wC, wgName, wTe, wAnd, wOr, DL.wNot, wAndV, wOrV, wNotV, wIf, wCh, wEq, wNe, wIsi, wIsi2, wCall, wNever, wTup, wLst, wSl, wNoPart, wPart, wYes, endD, startR, newL_f, newL_t, List.map, List.length, List.length_cons, List.length_nil, List.getElem?_cons_zero, List.getElem?_cons_succ, List.set_cons_zero, List.set_cons_succ, List.cons_append, List.nil_append, List.append_nil, List.replicate, Nat.reduceSub, Nat.reduceAdd, Option.some.injEq, ex_some_iff, ex_bl_iff, ex_int_iff, ex_tup_iff, exists_eq_left', true_and, and_true, rd_non, rd_bl, rd_int, rd_str, rd_tup, rd_lst, pl_int, pl_bl, pl_non, pl_tup, pl_lst, pl_str, isNon_int, isNon_bl, isNon_non, isNon_tup, isNon_str, isNon_ref, isNon_lst, okD_int, okD_bl, okD_non, eqD_int, eqD_bl, eqD_non, Bool.false_eq_true, if_true, if_false, ite_true, ite_false, Bool.not_true, Bool.not_false, D.int.injEq, D.tup.injEq, D.lst.injEq, D.ref.injEq, D.bl.injEq, MO.lst.injEq, List.cons.injEq, reduceCtorEq, false_and, and_false, exists_const, and_assoc, exists_and_left, exists_eq_left, wLc, wiSeq, wipeR, id, wiEnum, wiZip, wiRng1, wiRng2, wgTup, lenOk, wgCons, wgNil, wFor, wLstRg1, z_in_lst, z_in_tup, flat_int, flat_ints, inD_ints, wRev, wDic0, wExtend,  z_ix_0, z_ixt_0, z_ix_1, z_ixt_1, z_ix_2, z_ixt_2, z_ix_3, z_ixt_3, z_ix_4, z_ixt_4, z_ix_5, z_ixt_5, z_ix_6, z_ixt_6, z_ix_7, z_ixt_7, z_ix_8, z_ixt_8, z_add_int, z_add_tup, z_add_lst, z_add_str, z_mul_int, z_mul_tup, z_mul_lst, z_ib_int, z_ii_int, z_neg_int, z_len_lst, z_len_tup, z_len_str, z_abs_int, z_int_int, z_cii_int, z_tuple_lst, z_tuple_tup, z_list_lst, z_list_tup, z_cut_lst, z_cut_tup, z_rev_lst, z_rev_tup, z_isN_, z_notN_, z_isB_, z_notB_, z_w1_, z_w2_, z_in_lst, z_in_tup, z_isK_int_int, z_isK_int_bl, z_isK_int_str, z_isK_int_tup, z_isK_int_lst, z_isK_int_dic, z_isK_int_non, z_isK_bool_int, z_isK_bool_bl, z_isK_bool_str, z_isK_bool_tup, z_isK_bool_lst, z_isK_bool_dic, z_isK_bool_non, z_isK_str_int, z_isK_str_bl, z_isK_str_str, z_isK_str_tup, z_isK_str_lst, z_isK_str_dic, z_isK_str_non, z_isK_tuple_int, z_isK_tuple_bl, z_isK_tuple_str, z_isK_tuple_tup, z_isK_tuple_lst, z_isK_tuple_dic, z_isK_tuple_non, z_isK_list_int, z_isK_list_bl, z_isK_list_str, z_isK_list_tup, z_isK_list_lst, z_isK_list_dic, z_isK_list_non, z_isK_dict_int, z_isK_dict_bl, z_isK_dict_str, z_isK_dict_tup, z_isK_dict_lst, z_isK_dict_dic, z_isK_dict_non, z_items_lst, z_items_tup, sp_passes_screen]
        exact ⟨[0, 1], rfl, by omega, by omega, rfl, k1, by unfold permN; decide +kernel, by rw [k4]; exact hN⟩
      · simp only [wSeq, wNext, wIfS, wAsg, wRet, wRetN, wDrop, wOp, wUn, wgSub, wBM, z_tyd_lst,  wCB, wCons, wNil, wVar, wVarF, wC, wgName, wTe, wAnd, wOr, DL.wNot, wAndV, wOrV, wNotV, wIf, wCh, wEq, wNe, wIsi, wIsi2, wCall, wNever, wTup, wLst, wSl, wNoPart, wPart, wYes, endD, startR, newL_f, newL_t, List.map, List.length, List.length_cons, List.length_nil, List.getElem?_cons_zero, List.getElem?_cons_succ, List.set_cons_zero, List.set_cons_succ, List.cons_append, List.nil_append, List.append_nil, List.replicate, Nat.reduceSub, Nat.reduceAdd, Option.some.injEq, ex_some_iff, ex_bl_iff, ex_int_iff, ex_tup_iff, exists_eq_left', true_and, and_true, rd_non, rd_bl, rd_int, rd_str, rd_tup, rd_lst, pl_int, pl_bl, pl_non, pl_tup, pl_lst, pl_str, isNon_int, isNon_bl, isNon_non, isNon_tup, isNon_str, isNon_ref, isNon_lst, okD_int, okD_bl, okD_non, eqD_int, eqD_bl, eqD_non, Bool.false_eq_true, if_true, if_false, ite_true, ite_false, Bool.not_true, Bool.not_false, D.int.injEq, D.tup.injEq, D.lst.injEq, D.ref.injEq, D.bl.injEq, MO.lst.injEq, List.cons.injEq, reduceCtorEq, false_and, and_false, exists_const, and_assoc, exists_and_left, exists_eq_left, wLc, wiSeq, wipeR, id, wiEnum, wiZip, wiRng1, wiRng2, wgTup, lenOk, wgCons, wgNil, wFor, wLstRg1, z_in_lst, z_in_tup, flat_int, flat_ints, inD_ints, wRev, wDic0, wExtend,  z_ix_0, z_ixt_0, z_ix_1, z_ixt_1, z_ix_2, z_ixt_2, z_ix_3, z_ixt_3, z_ix_4, z_ixt_4, z_ix_5, z_ixt_5, z_ix_6, z_ixt_6, z_ix_7, z_ixt_7, z_ix_8, z_ixt_8, z_add_int, z_add_tup, z_add_lst, z_add_str, z_mul_int, z_mul_tup, z_mul_lst, z_ib_int, z_ii_int, z_neg_int, z_len_lst, z_len_tup, z_len_str, z_abs_int, z_int_int, z_cii_int, z_tuple_lst, z_tuple_tup, z_list_lst, z_list_tup, z_cut_lst, z_cut_tup, z_rev_lst, z_rev_tup, z_isN_, z_notN_, z_isB_, z_notB_, z_w1_, z_w2_, z_in_lst, z_in_tup, z_isK_int_int, z_isK_int_bl, z_isK_int_str, z_isK_int_tup, z_isK_int_lst, z_isK_int_dic, z_isK_int_non, z_isK_bool_int, z_isK_bool_bl, z_isK_bool_str, z_isK_bool_tup, z_isK_bool_lst, z_isK_bool_dic, z_isK_bool_non, z_isK_str_int, z_isK_str_bl, z_isK_str_str, z_isK_str_tup, z_isK_str_lst, z_isK_str_dic, z_isK_str_non, z_isK_tuple_int, z_isK_tuple_bl, z_isK_tuple_str, z_isK_tuple_tup, z_isK_tuple_lst, z_isK_tuple_dic, z_isK_tuple_non, z_isK_list_int, z_isK_list_bl, z_isK_list_str, z_isK_list_tup, z_isK_list_lst, z_isK_list_dic, z_isK_list_non, z_isK_dict_int, z_isK_dict_bl, z_isK_dict_str, z_isK_dict_tup, z_isK_dict_lst, z_isK_dict_dic, z_isK_dict_non, z_items_lst, z_items_tup, sp_passes_screen]
        exact ⟨[1, 0], rfl, by omega, by omega, rfl, k1, by unfold permN; decide +kernel, by rw [k5]; exact hN⟩
    simp only [wSeq, wNext, wIfS, wAsg, wRet, wRetN, wDrop, wOp, wUn, wgSub, wBM, z_tyd_lst,  wCB, wCons, wNil, wVar, wVarF, wC, wgName, wTe, wAnd, wOr, DL.wNot, wAndV, wOrV, wNotV, wIf, wCh, wEq, wNe, wIsi, wIsi2, wCall, wNever, wTup, wLst, wSl, wNoPart, wPart, wYes, endD, startR, newL_f, newL_t, List.map, List.length, List.length_cons, List.length_nil, List.getElem?_cons_zero, List.getElem?_cons_succ, List.set_cons_zero, List.set_cons_succ, List.cons_append, List.nil_append, List.append_nil, List.replicate, Nat.reduceSub, Nat.reduceAdd, Option.some.injEq, ex_some_iff, ex_bl_iff, ex_int_iff, ex_tup_iff, exists_eq_left', true_and, and_true, rd_non, rd_bl, rd_int, rd_str, rd_tup, rd_lst, pl_int, pl_bl, pl_non, pl_tup, pl_lst, pl_str, isNon_int, isNon_bl, isNon_non, isNon_tup, isNon_str, isNon_ref, isNon_lst, okD_int, okD_bl, okD_non, eqD_int, eqD_bl, eqD_non, Bool.false_eq_true, if_true, if_false, ite_true, ite_false, Bool.not_true, Bool.not_false, D.int.injEq, D.tup.injEq, D.lst.injEq, D.ref.injEq, D.bl.injEq, MO.lst.injEq, List.cons.injEq, reduceCtorEq, false_and, and_false, exists_const, and_assoc, exists_and_left, exists_eq_left, wLc, wiSeq, wipeR, id, wiEnum, wiZip, wiRng1, wiRng2, wgTup, lenOk, wgCons, wgNil, wFor, wLstRg1, z_in_lst, z_in_tup, flat_int, flat_ints, inD_ints, wRev, wDic0, wExtend,  z_ix_0, z_ixt_0, z_ix_1, z_ixt_1, z_ix_2, z_ixt_2, z_ix_3, z_ixt_3, z_ix_4, z_ixt_4, z_ix_5, z_ixt_5, z_ix_6, z_ixt_6, z_ix_7, z_ixt_7, z_ix_8, z_ixt_8, z_add_int, z_add_tup, z_add_lst, z_add_str, z_mul_int, z_mul_tup, z_mul_lst, z_ib_int, z_ii_int, z_neg_int, z_len_lst, z_len_tup, z_len_str, z_abs_int, z_int_int, z_cii_int, z_tuple_lst, z_tuple_tup, z_list_lst, z_list_tup, z_cut_lst, z_cut_tup, z_rev_lst, z_rev_tup, z_isN_, z_notN_, z_isB_, z_notB_, z_w1_, z_w2_, z_in_lst, z_in_tup, z_isK_int_int, z_isK_int_bl, z_isK_int_str, z_isK_int_tup, z_isK_int_lst, z_isK_int_dic, z_isK_int_non, z_isK_bool_int, z_isK_bool_bl, z_isK_bool_str, z_isK_bool_tup, z_isK_bool_lst, z_isK_bool_dic, z_isK_bool_non, z_isK_str_int, z_isK_str_bl, z_isK_str_str, z_isK_str_tup, z_isK_str_lst, z_isK_str_dic, z_isK_str_non, z_isK_tuple_int, z_isK_tuple_bl, z_isK_tuple_str, z_isK_tuple_tup, z_isK_tuple_lst, z_isK_tuple_dic, z_isK_tuple_non, z_isK_list_int, z_isK_list_bl, z_isK_list_str, z_isK_list_tup, z_isK_list_lst, z_isK_list_dic, z_isK_list_non, z_isK_dict_int, z_isK_dict_bl, z_isK_dict_str, z_isK_dict_tup, z_isK_dict_lst, z_isK_dict_dic, z_isK_dict_non, z_items_lst, z_items_tup]
    refine cAll_bl (bs := [true, true]) ⟨_, rfl, ?_⟩
    simp only [wSeq, wNext, wIfS, wAsg, wRet, wRetN, wDrop, wOp, wUn, wgSub, wBM, z_tyd_lst,  wCB, wCons, wNil, wVar, wVarF, wC, wgName, wTe, wAnd, wOr, DL.wNot, wAndV, wOrV, wNotV, wIf, wCh, wEq, wNe, wIsi, wIsi2, wCall, wNever, wTup, wLst, wSl, wNoPart, wPart, wYes, endD, startR, newL_f, newL_t, List.map, List.length, List.length_cons, List.length_nil, List.getElem?_cons_zero, List.getElem?_cons_succ, List.set_cons_zero, List.set_cons_succ, List.cons_append, List.nil_append, List.append_nil, List.replicate, Nat.reduceSub, Nat.reduceAdd, Option.some.injEq, ex_some_iff, ex_bl_iff, ex_int_iff, ex_tup_iff, exists_eq_left', true_and, and_true, rd_non, rd_bl, rd_int, rd_str, rd_tup, rd_lst, pl_int, pl_bl, pl_non, pl_tup, pl_lst, pl_str, isNon_int, isNon_bl, isNon_non, isNon_tup, isNon_str, isNon_ref, isNon_lst, okD_int, okD_bl, okD_non, eqD_int, eqD_bl, eqD_non, Bool.false_eq_true, if_true, if_false, ite_true, ite_false, Bool.not_true, Bool.not_false, D.int.injEq, D.tup.injEq, D.lst.injEq, D.ref.injEq, D.bl.injEq, MO.lst.injEq, List.cons.injEq, reduceCtorEq, false_and, and_false, exists_const, and_assoc, exists_and_left, exists_eq_left, wLc, wiSeq, wipeR, id, wiEnum, wiZip, wiRng1, wiRng2, wgTup, lenOk, wgCons, wgNil, wFor, wLstRg1, z_in_lst, z_in_tup, flat_int, flat_ints, inD_ints, wRev, wDic0, wExtend,  z_ix_0, z_ixt_0, z_ix_1, z_ixt_1, z_ix_2, z_ixt_2, z_ix_3, z_ixt_3, z_ix_4, z_ixt_4, z_ix_5, z_ixt_5, z_ix_6, z_ixt_6, z_ix_7, z_ixt_7, z_ix_8, z_ixt_8, z_add_int, z_add_tup, z_add_lst, z_add_str, z_mul_int, z_mul_tup, z_mul_lst, z_ib_int, z_ii_int, z_neg_int, z_len_lst, z_len_tup, z_len_str, z_abs_int, z_int_int, z_cii_int, z_tuple_lst, z_tuple_tup, z_list_lst, z_list_tup, z_cut_lst, z_cut_tup, z_rev_lst, z_rev_tup, z_isN_, z_notN_, z_isB_, z_notB_, z_w1_, z_w2_, z_in_lst, z_in_tup, z_isK_int_int, z_isK_int_bl, z_isK_int_str, z_isK_int_tup, z_isK_int_lst, z_isK_int_dic, z_isK_int_non, z_isK_bool_int, z_isK_bool_bl, z_isK_bool_str, z_isK_bool_tup, z_isK_bool_lst, z_isK_bool_dic, z_isK_bool_non, z_isK_str_int, z_isK_str_bl, z_isK_str_str, z_isK_str_tup, z_isK_str_lst, z_isK_str_dic, z_isK_str_non, z_isK_tuple_int, z_isK_tuple_bl, z_isK_tuple_str, z_isK_tuple_tup, z_isK_tuple_lst, z_isK_tuple_dic, z_isK_tuple_non, z_isK_list_int, z_isK_list_bl, z_isK_list_str, z_isK_list_tup, z_isK_list_lst, z_isK_list_dic, z_isK_list_non, z_isK_dict_int, z_isK_dict_bl, z_isK_dict_str, z_isK_dict_tup, z_isK_dict_lst, z_isK_dict_dic, z_isK_dict_non, z_items_lst, z_items_tup, List.all_cons, List.all_nil, Bool.and_true, decide_true, decide_false]
    repeat (refine And.intro (by first | assumption | rfl | (rw [sizeLine_eq] ; simp only [List.length_append, List.length_cons, List.length_nil, List.length_map, List.length_replicate, rep_len] ; omega) | (simp only [List.length_append, List.length_cons, List.length_nil, List.length_map, List.length_replicate, rep_len] ; omega) | omega | (rw [sizeLine_eq] ; omega)) ?_)
    refine forW_n (fun i ρ S' => S' = S1 ∧ ∃ a b c d e f g h, ρ = [some (.lst (ns.map D.int)), some (.ref t), some a, b, c, d, e, f, g, h, none]) (fun _ _ _ _ => trivial) (fun i d ρ S' hd h N hN => ?hs) (fun ρ S' h => ?hd) ⟨rfl, _, _, _, _, _, _, _, _, rfl⟩
    case hd =>
      obtain ⟨rfl, a, b, c, d, e, f, g, h, rfl⟩ := h
      simp only [wSeq, wNext, wIfS, wAsg, wRet, wRetN, wDrop, wOp, wUn, wgSub, wBM, z_tyd_lst,  wCB, wCons, wNil, wVar, wVarF, wC, wgName, wTe, wAnd, wOr, DL.wNot, wAndV, wOrV, wNotV, wIf, wCh, wEq, wNe, wIsi, wIsi2, wCall, wNever, wTup, wLst, wSl, wNoPart, wPart, wYes, endD, startR, newL_f, newL_t, List.map, List.length, List.length_cons, List.length_nil, List.getElem?_cons_zero, List.getElem?_cons_succ, List.set_cons_zero, List.set_cons_succ, List.cons_append, List.nil_append, List.append_nil, List.replicate, Nat.reduceSub, Nat.reduceAdd, Option.some.injEq, ex_some_iff, ex_bl_iff, ex_int_iff, ex_tup_iff, exists_eq_left', true_and, and_true, rd_non, rd_bl, rd_int, rd_str, rd_tup, rd_lst, pl_int, pl_bl, pl_non, pl_tup, pl_lst, pl_str, isNon_int, isNon_bl, isNon_non, isNon_tup, isNon_str, isNon_ref, isNon_lst, okD_int, okD_bl, okD_non, eqD_int, eqD_bl, eqD_non, Bool.false_eq_true, if_true, if_false, ite_true, ite_false, Bool.not_true, Bool.not_false, D.int.injEq, D.tup.injEq, D.lst.injEq, D.ref.injEq, D.bl.injEq, MO.lst.injEq, List.cons.injEq, reduceCtorEq, false_and, and_false, exists_const, and_assoc, exists_and_left, exists_eq_left, wLc, wiSeq, wipeR, id, wiEnum, wiZip, wiRng1, wiRng2, wgTup, lenOk, wgCons, wgNil, wFor, wLstRg1, z_in_lst, z_in_tup, flat_int, flat_ints, inD_ints, wRev, wDic0, wExtend,  z_ix_0, z_ixt_0, z_ix_1, z_ixt_1, z_ix_2, z_ixt_2, z_ix_3, z_ixt_3, z_ix_4, z_ixt_4, z_ix_5, z_ixt_5, z_ix_6, z_ixt_6, z_ix_7, z_ixt_7, z_ix_8, z_ixt_8, z_add_int, z_add_tup, z_add_lst, z_add_str, z_mul_int, z_mul_tup, z_mul_lst, z_ib_int, z_ii_int, z_neg_int, z_len_lst, z_len_tup, z_len_str, z_abs_int, z_int_int, z_cii_int, z_tuple_lst, z_tuple_tup, z_list_lst, z_list_tup, z_cut_lst, z_cut_tup, z_rev_lst, z_rev_tup, z_isN_, z_notN_, z_isB_, z_notB_, z_w1_, z_w2_, z_in_lst, z_in_tup, z_isK_int_int, z_isK_int_bl, z_isK_int_str, z_isK_int_tup, z_isK_int_lst, z_isK_int_dic, z_isK_int_non, z_isK_bool_int, z_isK_bool_bl, z_isK_bool_str, z_isK_bool_tup, z_isK_bool_lst, z_isK_bool_dic, z_isK_bool_non, z_isK_str_int, z_isK_str_bl, z_isK_str_str, z_isK_str_tup, z_isK_str_lst, z_isK_str_dic, z_isK_str_non, z_isK_tuple_int, z_isK_tuple_bl, z_isK_tuple_str, z_isK_tuple_tup, z_isK_tuple_lst, z_isK_tuple_dic, z_isK_tuple_non, z_isK_list_int, z_isK_list_bl, z_isK_list_str, z_isK_list_tup, z_isK_list_lst, z_isK_list_dic, z_isK_list_non, z_isK_dict_int, z_isK_dict_bl, z_isK_dict_str, z_isK_dict_tup, z_isK_dict_lst, z_isK_dict_dic, z_isK_dict_non, z_items_lst, z_items_tup]
      exact outK.mk gs q
    case hs =>
      obtain ⟨rfl, a, b, c, d', e, f, g, h, rfl⟩ := h
      simp only [wSeq, wNext, wIfS, wAsg, wRet, wRetN, wDrop, wOp, wUn, wgSub, wBM, z_tyd_lst,  wCB, wCons, wNil, wVar, wVarF, wC, wgName, wTe, wAnd, wOr, DL.wNot, wAndV, wOrV, wNotV, wIf, wCh, wEq, wNe, wIsi, wIsi2, wCall, wNever, wTup, wLst, wSl, wNoPart, wPart, wYes, endD, startR, newL_f, newL_t, List.map, List.length, List.length_cons, List.length_nil, List.getElem?_cons_zero, List.getElem?_cons_succ, List.set_cons_zero, List.set_cons_succ, List.cons_append, List.nil_append, List.append_nil, List.replicate, Nat.reduceSub, Nat.reduceAdd, Option.some.injEq, ex_some_iff, ex_bl_iff, ex_int_iff, ex_tup_iff, exists_eq_left', true_and, and_true, rd_non, rd_bl, rd_int, rd_str, rd_tup, rd_lst, pl_int, pl_bl, pl_non, pl_tup, pl_lst, pl_str, isNon_int, isNon_bl, isNon_non, isNon_tup, isNon_str, isNon_ref, isNon_lst, okD_int, okD_bl, okD_non, eqD_int, eqD_bl, eqD_non, Bool.false_eq_true, if_true, if_false, ite_true, ite_false, Bool.not_true, Bool.not_false, D.int.injEq, D.tup.injEq, D.lst.injEq, D.ref.injEq, D.bl.injEq, MO.lst.injEq, List.cons.injEq, reduceCtorEq, false_and, and_false, exists_const, and_assoc, exists_and_left, exists_eq_left, wLc, wiSeq, wipeR, id, wiEnum, wiZip, wiRng1, wiRng2, wgTup, lenOk, wgCons, wgNil, wFor, wLstRg1, z_in_lst, z_in_tup, flat_int, flat_ints, inD_ints, wRev, wDic0, wExtend,  z_ix_0, z_ixt_0, z_ix_1, z_ixt_1, z_ix_2, z_ixt_2, z_ix_3, z_ixt_3, z_ix_4, z_ixt_4, z_ix_5, z_ixt_5, z_ix_6, z_ixt_6, z_ix_7, z_ixt_7, z_ix_8, z_ixt_8, z_add_int, z_add_tup, z_add_lst, z_add_str, z_mul_int, z_mul_tup, z_mul_lst, z_ib_int, z_ii_int, z_neg_int, z_len_lst, z_len_tup, z_len_str, z_abs_int, z_int_int, z_cii_int, z_tuple_lst, z_tuple_tup, z_list_lst, z_list_tup, z_cut_lst, z_cut_tup, z_rev_lst, z_rev_tup, z_isN_, z_notN_, z_isB_, z_notB_, z_w1_, z_w2_, z_in_lst, z_in_tup, z_isK_int_int, z_isK_int_bl, z_isK_int_str, z_isK_int_tup, z_isK_int_lst, z_isK_int_dic, z_isK_int_non, z_isK_bool_int, z_isK_bool_bl, z_isK_bool_str, z_isK_bool_tup, z_isK_bool_lst, z_isK_bool_dic, z_isK_bool_non, z_isK_str_int, z_isK_str_bl, z_isK_str_str, z_isK_str_tup, z_isK_str_lst, z_isK_str_dic, z_isK_str_non, z_isK_tuple_int, z_isK_tuple_bl, z_isK_tuple_str, z_isK_tuple_tup, z_isK_tuple_lst, z_isK_tuple_dic, z_isK_tuple_non, z_isK_list_int, z_isK_list_bl, z_isK_list_str, z_isK_list_tup, z_isK_list_lst, z_isK_list_dic, z_isK_list_non, z_isK_dict_int, z_isK_dict_bl, z_isK_dict_str, z_isK_dict_tup, z_isK_dict_lst, z_isK_dict_dic, z_isK_dict_non, z_items_lst, z_items_tup, drawSp, sp__law_screen]
      refine ⟨gt, by omega, by omega, fun i h0 h1 => ⟨gt, by omega, by omega, fun rows hl pr hsc => ?_⟩⟩
      repeat (refine And.intro (by first | assumption | rfl | (rw [sizeLine_eq] ; simp only [List.length_append, List.length_cons, List.length_nil, List.length_map, List.length_replicate, rep_len] ; omega) | (simp only [List.length_append, List.length_cons, List.length_nil, List.length_map, List.length_replicate, rep_len] ; omega) | omega | (rw [sizeLine_eq] ; omega)) ?_)
      refine compL_all (fun x => pu x = true) noG_any (le_sz (by rw [rangeD_length]; decide)) (fun d hd S2 sub N hN => ?_) (fun xs hx px => ?_)
      · simp only [wSeq, wNext, wIfS, wAsg, wRet, wRetN, wDrop, wOp, wUn, wgSub, wBM, z_tyd_lst,  wCB, wCons, wNil, wVar, wVarF, wC, wgName, wTe, wAnd, wOr, DL.wNot, wAndV, wOrV, wNotV, wIf, wCh, wEq, wNe, wIsi, wIsi2, wCall, wNever, wTup, wLst, wSl, wNoPart, wPart, wYes, endD, startR, newL_f, newL_t, List.map, List.length, List.length_cons, List.length_nil, List.getElem?_cons_zero, List.getElem?_cons_succ, List.set_cons_zero, List.set_cons_succ, List.cons_append, List.nil_append, List.append_nil, List.replicate, Nat.reduceSub, Nat.reduceAdd, Option.some.injEq, ex_some_iff, ex_bl_iff, ex_int_iff, ex_tup_iff, exists_eq_left', true_and, and_true, rd_non, rd_bl, rd_int, rd_str, rd_tup, rd_lst, pl_int, pl_bl, pl_non, pl_tup, pl_lst, pl_str, isNon_int, isNon_bl, isNon_non, isNon_tup, isNon_str, isNon_ref, isNon_lst, okD_int, okD_bl, okD_non, eqD_int, eqD_bl, eqD_non, Bool.false_eq_true, if_true, if_false, ite_true, ite_false, Bool.not_true, Bool.not_false, D.int.injEq, D.tup.injEq, D.lst.injEq, D.ref.injEq, D.bl.injEq, MO.lst.injEq, List.cons.injEq, reduceCtorEq, false_and, and_false, exists_const, and_assoc, exists_and_left, exists_eq_left, wLc, wiSeq, wipeR, id, wiEnum, wiZip, wiRng1, wiRng2, wgTup, lenOk, wgCons, wgNil, wFor, wLstRg1, z_in_lst, z_in_tup, flat_int, flat_ints, inD_ints, wRev, wDic0, wExtend,  z_ix_0, z_ixt_0, z_ix_1, z_ixt_1, z_ix_2, z_ixt_2, z_ix_3, z_ixt_3, z_ix_4, z_ixt_4, z_ix_5, z_ixt_5, z_ix_6, z_ixt_6, z_ix_7, z_ixt_7, z_ix_8, z_ixt_8, z_add_int, z_add_tup, z_add_lst, z_add_str, z_mul_int, z_mul_tup, z_mul_lst, z_ib_int, z_ii_int, z_neg_int, z_len_lst, z_len_tup, z_len_str, z_abs_int, z_int_int, z_cii_int, z_tuple_lst, z_tuple_tup, z_list_lst, z_list_tup, z_cut_lst, z_cut_tup, z_rev_lst, z_rev_tup, z_isN_, z_notN_, z_isB_, z_notB_, z_w1_, z_w2_, z_in_lst, z_in_tup, z_isK_int_int, z_isK_int_bl, z_isK_int_str, z_isK_int_tup, z_isK_int_lst, z_isK_int_dic, z_isK_int_non, z_isK_bool_int, z_isK_bool_bl, z_isK_bool_str, z_isK_bool_tup, z_isK_bool_lst, z_isK_bool_dic, z_isK_bool_non, z_isK_str_int, z_isK_str_bl, z_isK_str_str, z_isK_str_tup, z_isK_str_lst, z_isK_str_dic, z_isK_str_non, z_isK_tuple_int, z_isK_tuple_bl, z_isK_tuple_str, z_isK_tuple_tup, z_isK_tuple_lst, z_isK_tuple_dic, z_isK_tuple_non, z_isK_list_int, z_isK_list_bl, z_isK_list_str, z_isK_list_tup, z_isK_list_lst, z_isK_list_dic, z_isK_list_non, z_isK_dict_int, z_isK_dict_bl, z_isK_dict_str, z_isK_dict_tup, z_isK_dict_lst, z_isK_dict_dic, z_isK_dict_non, z_items_lst, z_items_tup, sp__law_bent]
        exact ⟨sub _ _ gt, by omega, by omega, hl, pr, hsc, fun x hx => hN x hx⟩
      rw [rangeD_length] at hx
      simp only [wSeq, wNext, wIfS, wAsg, wRet, wRetN, wDrop, wOp, wUn, wgSub, wBM, z_tyd_lst,  wCB, wCons, wNil, wVar, wVarF, wC, wgName, wTe, wAnd, wOr, DL.wNot, wAndV, wOrV, wNotV, wIf, wCh, wEq, wNe, wIsi, wIsi2, wCall, wNever, wTup, wLst, wSl, wNoPart, wPart, wYes, endD, startR, newL_f, newL_t, List.map, List.length, List.length_cons, List.length_nil, List.getElem?_cons_zero, List.getElem?_cons_succ, List.set_cons_zero, List.set_cons_succ, List.cons_append, List.nil_append, List.append_nil, List.replicate, Nat.reduceSub, Nat.reduceAdd, Option.some.injEq, ex_some_iff, ex_bl_iff, ex_int_iff, ex_tup_iff, exists_eq_left', true_and, and_true, rd_non, rd_bl, rd_int, rd_str, rd_tup, rd_lst, pl_int, pl_bl, pl_non, pl_tup, pl_lst, pl_str, isNon_int, isNon_bl, isNon_non, isNon_tup, isNon_str, isNon_ref, isNon_lst, okD_int, okD_bl, okD_non, eqD_int, eqD_bl, eqD_non, Bool.false_eq_true, if_true, if_false, ite_true, ite_false, Bool.not_true, Bool.not_false, D.int.injEq, D.tup.injEq, D.lst.injEq, D.ref.injEq, D.bl.injEq, MO.lst.injEq, List.cons.injEq, reduceCtorEq, false_and, and_false, exists_const, and_assoc, exists_and_left, exists_eq_left, wLc, wiSeq, wipeR, id, wiEnum, wiZip, wiRng1, wiRng2, wgTup, lenOk, wgCons, wgNil, wFor, wLstRg1, z_in_lst, z_in_tup, flat_int, flat_ints, inD_ints, wRev, wDic0, wExtend,  z_ix_0, z_ixt_0, z_ix_1, z_ixt_1, z_ix_2, z_ixt_2, z_ix_3, z_ixt_3, z_ix_4, z_ixt_4, z_ix_5, z_ixt_5, z_ix_6, z_ixt_6, z_ix_7, z_ixt_7, z_ix_8, z_ixt_8, z_add_int, z_add_tup, z_add_lst, z_add_str, z_mul_int, z_mul_tup, z_mul_lst, z_ib_int, z_ii_int, z_neg_int, z_len_lst, z_len_tup, z_len_str, z_abs_int, z_int_int, z_cii_int, z_tuple_lst, z_tuple_tup, z_list_lst, z_list_tup, z_cut_lst, z_cut_tup, z_rev_lst, z_rev_tup, z_isN_, z_notN_, z_isB_, z_notB_, z_w1_, z_w2_, z_in_lst, z_in_tup, z_isK_int_int, z_isK_int_bl, z_isK_int_str, z_isK_int_tup, z_isK_int_lst, z_isK_int_dic, z_isK_int_non, z_isK_bool_int, z_isK_bool_bl, z_isK_bool_str, z_isK_bool_tup, z_isK_bool_lst, z_isK_bool_dic, z_isK_bool_non, z_isK_str_int, z_isK_str_bl, z_isK_str_str, z_isK_str_tup, z_isK_str_lst, z_isK_str_dic, z_isK_str_non, z_isK_tuple_int, z_isK_tuple_bl, z_isK_tuple_str, z_isK_tuple_tup, z_isK_tuple_lst, z_isK_tuple_dic, z_isK_tuple_non, z_isK_list_int, z_isK_list_bl, z_isK_list_str, z_isK_list_tup, z_isK_list_lst, z_isK_list_dic, z_isK_list_non, z_isK_dict_int, z_isK_dict_bl, z_isK_dict_str, z_isK_dict_tup, z_isK_dict_lst, z_isK_dict_dic, z_isK_dict_non, z_items_lst, z_items_tup]
      repeat (refine And.intro (by first | assumption | rfl | (rw [sizeLine_eq] ; simp only [List.length_append, List.length_cons, List.length_nil, List.length_map, List.length_replicate, rep_len] ; omega) | (simp only [List.length_append, List.length_cons, List.length_nil, List.length_map, List.length_replicate, rep_len] ; omega) | omega | (rw [sizeLine_eq] ; omega)) ?_)
      have pa : ∀ x ∈ [D.tup rows] ++ xs, pu x = true := fun x hm => by
        rcases List.mem_append.mp hm with h | h
        · rw [List.mem_singleton.mp h]
          exact pr
        · exact px x h
      refine forW_n (fun j ρ S2 => S2 = S' ∧ ∃ e f g h, ρ = [some (.lst (ns.map D.int)), some (.ref t), some a, some d, some (.int (1 + i)), some (.tup rows), e, f, g, h, none]) (fun _ _ _ _ => trivial) (fun j x ρ S2 hx h N hN => ?hs) (fun ρ S2 h => ?hd) ⟨rfl, _, _, _, _, rfl⟩
      case hs =>
        obtain ⟨rfl, e, f, g, h, rfl⟩ := h
        have pd := pa x (List.mem_of_getElem? hx)
        simp only [wSeq, wNext, wIfS, wAsg, wRet, wRetN, wDrop, wOp, wUn, wgSub, wBM, z_tyd_lst,  wCB, wCons, wNil, wVar, wVarF, wC, wgName, wTe, wAnd, wOr, DL.wNot, wAndV, wOrV, wNotV, wIf, wCh, wEq, wNe, wIsi, wIsi2, wCall, wNever, wTup, wLst, wSl, wNoPart, wPart, wYes, endD, startR, newL_f, newL_t, List.map, List.length, List.length_cons, List.length_nil, List.getElem?_cons_zero, List.getElem?_cons_succ, List.set_cons_zero, List.set_cons_succ, List.cons_append, List.nil_append, List.append_nil, List.replicate, Nat.reduceSub, Nat.reduceAdd, Option.some.injEq, ex_some_iff, ex_bl_iff, ex_int_iff, ex_tup_iff, exists_eq_left', true_and, and_true, rd_non, rd_bl, rd_int, rd_str, rd_tup, rd_lst, pl_int, pl_bl, pl_non, pl_tup, pl_lst, pl_str, isNon_int, isNon_bl, isNon_non, isNon_tup, isNon_str, isNon_ref, isNon_lst, okD_int, okD_bl, okD_non, eqD_int, eqD_bl, eqD_non, Bool.false_eq_true, if_true, if_false, ite_true, ite_false, Bool.not_true, Bool.not_false, D.int.injEq, D.tup.injEq, D.lst.injEq, D.ref.injEq, D.bl.injEq, MO.lst.injEq, List.cons.injEq, reduceCtorEq, false_and, and_false, exists_const, and_assoc, exists_and_left, exists_eq_left, wLc, wiSeq, wipeR, id, wiEnum, wiZip, wiRng1, wiRng2, wgTup, lenOk, wgCons, wgNil, wFor, wLstRg1, z_in_lst, z_in_tup, flat_int, flat_ints, inD_ints, wRev, wDic0, wExtend,  z_ix_0, z_ixt_0, z_ix_1, z_ixt_1, z_ix_2, z_ixt_2, z_ix_3, z_ixt_3, z_ix_4, z_ixt_4, z_ix_5, z_ixt_5, z_ix_6, z_ixt_6, z_ix_7, z_ixt_7, z_ix_8, z_ixt_8, z_add_int, z_add_tup, z_add_lst, z_add_str, z_mul_int, z_mul_tup, z_mul_lst, z_ib_int, z_ii_int, z_neg_int, z_len_lst, z_len_tup, z_len_str, z_abs_int, z_int_int, z_cii_int, z_tuple_lst, z_tuple_tup, z_list_lst, z_list_tup, z_cut_lst, z_cut_tup, z_rev_lst, z_rev_tup, z_isN_, z_notN_, z_isB_, z_notB_, z_w1_, z_w2_, z_in_lst, z_in_tup, z_isK_int_int, z_isK_int_bl, z_isK_int_str, z_isK_int_tup, z_isK_int_lst, z_isK_int_dic, z_isK_int_non, z_isK_bool_int, z_isK_bool_bl, z_isK_bool_str, z_isK_bool_tup, z_isK_bool_lst, z_isK_bool_dic, z_isK_bool_non, z_isK_str_int, z_isK_str_bl, z_isK_str_str, z_isK_str_tup, z_isK_str_lst, z_isK_str_dic, z_isK_str_non, z_isK_tuple_int, z_isK_tuple_bl, z_isK_tuple_str, z_isK_tuple_tup, z_isK_tuple_lst, z_isK_tuple_dic, z_isK_tuple_non, z_isK_list_int, z_isK_list_bl, z_isK_list_str, z_isK_list_tup, z_isK_list_lst, z_isK_list_dic, z_isK_list_non, z_isK_dict_int, z_isK_dict_bl, z_isK_dict_str, z_isK_dict_tup, z_isK_dict_lst, z_isK_dict_dic, z_isK_dict_non, z_items_lst, z_items_tup, sp_is_screen, sp__law_is_screen, pd, beq_self_eq_true]
        repeat (refine And.intro (by first | assumption | rfl | (rw [sizeLine_eq] ; simp only [List.length_append, List.length_cons, List.length_nil, List.length_map, List.length_replicate, rep_len] ; omega) | (simp only [List.length_append, List.length_cons, List.length_nil, List.length_map, List.length_replicate, rep_len] ; omega) | omega | (rw [sizeLine_eq] ; omega)) ?_)
        exact hN _ _ ⟨rfl, _, _, _, _, rfl⟩
      case hd =>
        obtain ⟨rfl, e, f, g, h, rfl⟩ := h
        have go : ∀ ev : List D, (∀ x ∈ ev, ∃ order, x = .tup (order.map D.int) ∧ permN (1 + i) order) → forW noG (wgName 9)
            (wIfS (DL.wNot (wTe (wCall sp__law_is (wCons (wCall sp_passes_screen (wCons (wVar 4) (wCons (wVar 5) (wCons (wVar 9) wNil)))) (wCons (wCall sp__law_passes (wCons (wVar 5) (wCons (wVar 9) wNil))) wNil))))) (wRet (wC (D.bl false))) wNext)
            { nx := N, rt := outK Q, bk := wRet (wC (D.bl true)) { nx := fun x S' => outK Q D.non S', rt := outK Q }, ct := N } ev
            [some (.lst (ns.map D.int)), some (.ref t), some a, some d, some (.int (1 + i)), some (.tup rows), e, f, some (.lst ev), h, none] S2 := fun ev he => by
          refine forW_n (fun j ρ S3 => S3 = S2 ∧ ∃ h, ρ = [some (.lst (ns.map D.int)), some (.ref t), some a, some d, some (.int (1 + i)), some (.tup rows), e, f, some (.lst ev), h, none]) (fun _ _ _ _ => trivial) (fun j x ρ S3 hx h N2 hN2 => ?hs) (fun ρ S3 h => ?hd) ⟨rfl, _, rfl⟩
          case hd =>
            obtain ⟨rfl, h, rfl⟩ := h
            exact hN _ _ ⟨rfl, _, _, _, _, _, _, _, _, rfl⟩
          case hs =>
            obtain ⟨rfl, h, rfl⟩ := h
            obtain ⟨order, rfl, ho⟩ := he x (List.mem_of_getElem? hx)
            simp only [wSeq, wNext, wIfS, wAsg, wRet, wRetN, wDrop, wOp, wUn, wgSub, wBM, z_tyd_lst,  wCB, wCons, wNil, wVar, wVarF, wC, wgName, wTe, wAnd, wOr, DL.wNot, wAndV, wOrV, wNotV, wIf, wCh, wEq, wNe, wIsi, wIsi2, wCall, wNever, wTup, wLst, wSl, wNoPart, wPart, wYes, endD, startR, newL_f, newL_t, List.map, List.length, List.length_cons, List.length_nil, List.getElem?_cons_zero, List.getElem?_cons_succ, List.set_cons_zero, List.set_cons_succ, List.cons_append, List.nil_append, List.append_nil, List.replicate, Nat.reduceSub, Nat.reduceAdd, Option.some.injEq, ex_some_iff, ex_bl_iff, ex_int_iff, ex_tup_iff, exists_eq_left', true_and, and_true, rd_non, rd_bl, rd_int, rd_str, rd_tup, rd_lst, pl_int, pl_bl, pl_non, pl_tup, pl_lst, pl_str, isNon_int, isNon_bl, isNon_non, isNon_tup, isNon_str, isNon_ref, isNon_lst, okD_int, okD_bl, okD_non, eqD_int, eqD_bl, eqD_non, Bool.false_eq_true, if_true, if_false, ite_true, ite_false, Bool.not_true, Bool.not_false, D.int.injEq, D.tup.injEq, D.lst.injEq, D.ref.injEq, D.bl.injEq, MO.lst.injEq, List.cons.injEq, reduceCtorEq, false_and, and_false, exists_const, and_assoc, exists_and_left, exists_eq_left, wLc, wiSeq, wipeR, id, wiEnum, wiZip, wiRng1, wiRng2, wgTup, lenOk, wgCons, wgNil, wFor, wLstRg1, z_in_lst, z_in_tup, flat_int, flat_ints, inD_ints, wRev, wDic0, wExtend,  z_ix_0, z_ixt_0, z_ix_1, z_ixt_1, z_ix_2, z_ixt_2, z_ix_3, z_ixt_3, z_ix_4, z_ixt_4, z_ix_5, z_ixt_5, z_ix_6, z_ixt_6, z_ix_7, z_ixt_7, z_ix_8, z_ixt_8, z_add_int, z_add_tup, z_add_lst, z_add_str, z_mul_int, z_mul_tup, z_mul_lst, z_ib_int, z_ii_int, z_neg_int, z_len_lst, z_len_tup, z_len_str, z_abs_int, z_int_int, z_cii_int, z_tuple_lst, z_tuple_tup, z_list_lst, z_list_tup, z_cut_lst, z_cut_tup, z_rev_lst, z_rev_tup, z_isN_, z_notN_, z_isB_, z_notB_, z_w1_, z_w2_, z_in_lst, z_in_tup, z_isK_int_int, z_isK_int_bl, z_isK_int_str, z_isK_int_tup, z_isK_int_lst, z_isK_int_dic, z_isK_int_non, z_isK_bool_int, z_isK_bool_bl, z_isK_bool_str, z_isK_bool_tup, z_isK_bool_lst, z_isK_bool_dic, z_isK_bool_non, z_isK_str_int, z_isK_str_bl, z_isK_str_str, z_isK_str_tup, z_isK_str_lst, z_isK_str_dic, z_isK_str_non, z_isK_tuple_int, z_isK_tuple_bl, z_isK_tuple_str, z_isK_tuple_tup, z_isK_tuple_lst, z_isK_tuple_dic, z_isK_tuple_non, z_isK_list_int, z_isK_list_bl, z_isK_list_str, z_isK_list_tup, z_isK_list_lst, z_isK_list_dic, z_isK_list_non, z_isK_dict_int, z_isK_dict_bl, z_isK_dict_str, z_isK_dict_tup, z_isK_dict_lst, z_isK_dict_dic, z_isK_dict_non, z_items_lst, z_items_tup, sp_passes_screen, sp__law_passes, sp__law_is]
            refine ⟨order, rfl, by omega, by omega, pr, hsc, ho, 1 + i, order, rfl, hsc, fun l hl => permN_mem ho hl, ?_⟩
            simp only [wSeq, wNext, wIfS, wAsg, wRet, wRetN, wDrop, wOp, wUn, wgSub, wBM, z_tyd_lst,  wCB, wCons, wNil, wVar, wVarF, wC, wgName, wTe, wAnd, wOr, DL.wNot, wAndV, wOrV, wNotV, wIf, wCh, wEq, wNe, wIsi, wIsi2, wCall, wNever, wTup, wLst, wSl, wNoPart, wPart, wYes, endD, startR, newL_f, newL_t, List.map, List.length, List.length_cons, List.length_nil, List.getElem?_cons_zero, List.getElem?_cons_succ, List.set_cons_zero, List.set_cons_succ, List.cons_append, List.nil_append, List.append_nil, List.replicate, Nat.reduceSub, Nat.reduceAdd, Option.some.injEq, ex_some_iff, ex_bl_iff, ex_int_iff, ex_tup_iff, exists_eq_left', true_and, and_true, rd_non, rd_bl, rd_int, rd_str, rd_tup, rd_lst, pl_int, pl_bl, pl_non, pl_tup, pl_lst, pl_str, isNon_int, isNon_bl, isNon_non, isNon_tup, isNon_str, isNon_ref, isNon_lst, okD_int, okD_bl, okD_non, eqD_int, eqD_bl, eqD_non, Bool.false_eq_true, if_true, if_false, ite_true, ite_false, Bool.not_true, Bool.not_false, D.int.injEq, D.tup.injEq, D.lst.injEq, D.ref.injEq, D.bl.injEq, MO.lst.injEq, List.cons.injEq, reduceCtorEq, false_and, and_false, exists_const, and_assoc, exists_and_left, exists_eq_left, wLc, wiSeq, wipeR, id, wiEnum, wiZip, wiRng1, wiRng2, wgTup, lenOk, wgCons, wgNil, wFor, wLstRg1, z_in_lst, z_in_tup, flat_int, flat_ints, inD_ints, wRev, wDic0, wExtend,  z_ix_0, z_ixt_0, z_ix_1, z_ixt_1, z_ix_2, z_ixt_2, z_ix_3, z_ixt_3, z_ix_4, z_ixt_4, z_ix_5, z_ixt_5, z_ix_6, z_ixt_6, z_ix_7, z_ixt_7, z_ix_8, z_ixt_8, z_add_int, z_add_tup, z_add_lst, z_add_str, z_mul_int, z_mul_tup, z_mul_lst, z_ib_int, z_ii_int, z_neg_int, z_len_lst, z_len_tup, z_len_str, z_abs_int, z_int_int, z_cii_int, z_tuple_lst, z_tuple_tup, z_list_lst, z_list_tup, z_cut_lst, z_cut_tup, z_rev_lst, z_rev_tup, z_isN_, z_notN_, z_isB_, z_notB_, z_w1_, z_w2_, z_in_lst, z_in_tup, z_isK_int_int, z_isK_int_bl, z_isK_int_str, z_isK_int_tup, z_isK_int_lst, z_isK_int_dic, z_isK_int_non, z_isK_bool_int, z_isK_bool_bl, z_isK_bool_str, z_isK_bool_tup, z_isK_bool_lst, z_isK_bool_dic, z_isK_bool_non, z_isK_str_int, z_isK_str_bl, z_isK_str_str, z_isK_str_tup, z_isK_str_lst, z_isK_str_dic, z_isK_str_non, z_isK_tuple_int, z_isK_tuple_bl, z_isK_tuple_str, z_isK_tuple_tup, z_isK_tuple_lst, z_isK_tuple_dic, z_isK_tuple_non, z_isK_list_int, z_isK_list_bl, z_isK_list_str, z_isK_list_tup, z_isK_list_lst, z_isK_list_dic, z_isK_list_non, z_isK_dict_int, z_isK_dict_bl, z_isK_dict_str, z_isK_dict_tup, z_isK_dict_lst, z_isK_dict_dic, z_isK_dict_non, z_items_lst, z_items_tup, beq_self_eq_true]
            exact hN2 _ _ ⟨rfl, _, rfl⟩
        simp only [wSeq, wNext, wIfS, wAsg, wRet, wRetN, wDrop, wOp, wUn, wgSub, wBM, z_tyd_lst,  wCB, wCons, wNil, wVar, wVarF, wC, wgName, wTe, wAnd, wOr, DL.wNot, wAndV, wOrV, wNotV, wIf, wCh, wEq, wNe, wIsi, wIsi2, wCall, wNever, wTup, wLst, wSl, wNoPart, wPart, wYes, endD, startR, newL_f, newL_t, List.map, List.length, List.length_cons, List.length_nil, List.getElem?_cons_zero, List.getElem?_cons_succ, List.set_cons_zero, List.set_cons_succ, List.cons_append, List.nil_append, List.append_nil, List.replicate, Nat.reduceSub, Nat.reduceAdd, Option.some.injEq, ex_some_iff, ex_bl_iff, ex_int_iff, ex_tup_iff, exists_eq_left', true_and, and_true, rd_non, rd_bl, rd_int, rd_str, rd_tup, rd_lst, pl_int, pl_bl, pl_non, pl_tup, pl_lst, pl_str, isNon_int, isNon_bl, isNon_non, isNon_tup, isNon_str, isNon_ref, isNon_lst, okD_int, okD_bl, okD_non, eqD_int, eqD_bl, eqD_non, Bool.false_eq_true, if_true, if_false, ite_true, ite_false, Bool.not_true, Bool.not_false, D.int.injEq, D.tup.injEq, D.lst.injEq, D.ref.injEq, D.bl.injEq, MO.lst.injEq, List.cons.injEq, reduceCtorEq, false_and, and_false, exists_const, and_assoc, exists_and_left, exists_eq_left, wLc, wiSeq, wipeR, id, wiEnum, wiZip, wiRng1, wiRng2, wgTup, lenOk, wgCons, wgNil, wFor, wLstRg1, z_in_lst, z_in_tup, flat_int, flat_ints, inD_ints, wRev, wDic0, wExtend,  z_ix_0, z_ixt_0, z_ix_1, z_ixt_1, z_ix_2, z_ixt_2, z_ix_3, z_ixt_3, z_ix_4, z_ixt_4, z_ix_5, z_ixt_5, z_ix_6, z_ixt_6, z_ix_7, z_ixt_7, z_ix_8, z_ixt_8, z_add_int, z_add_tup, z_add_lst, z_add_str, z_mul_int, z_mul_tup, z_mul_lst, z_ib_int, z_ii_int, z_neg_int, z_len_lst, z_len_tup, z_len_str, z_abs_int, z_int_int, z_cii_int, z_tuple_lst, z_tuple_tup, z_list_lst, z_list_tup, z_cut_lst, z_cut_tup, z_rev_lst, z_rev_tup, z_isN_, z_notN_, z_isB_, z_notB_, z_w1_, z_w2_, z_in_lst, z_in_tup, z_isK_int_int, z_isK_int_bl, z_isK_int_str, z_isK_int_tup, z_isK_int_lst, z_isK_int_dic, z_isK_int_non, z_isK_bool_int, z_isK_bool_bl, z_isK_bool_str, z_isK_bool_tup, z_isK_bool_lst, z_isK_bool_dic, z_isK_bool_non, z_isK_str_int, z_isK_str_bl, z_isK_str_str, z_isK_str_tup, z_isK_str_lst, z_isK_str_dic, z_isK_str_non, z_isK_tuple_int, z_isK_tuple_bl, z_isK_tuple_str, z_isK_tuple_tup, z_isK_tuple_lst, z_isK_tuple_dic, z_isK_tuple_non, z_isK_list_int, z_isK_list_bl, z_isK_list_str, z_isK_list_tup, z_isK_list_lst, z_isK_list_dic, z_isK_list_non, z_isK_dict_int, z_isK_dict_bl, z_isK_dict_str, z_isK_dict_tup, z_isK_dict_lst, z_isK_dict_dic, z_isK_dict_non, z_items_lst, z_items_tup]
        refine ite_bl (fun h5 => ?_) (fun h5 => ?_)
        · have := of_decide_eq_true h5
          exact ⟨_, rfl, ⟨by omega, by omega⟩, fun ev he => go ev he⟩
        · repeat (refine And.intro (by first | assumption | rfl | (rw [sizeLine_eq] ; simp only [List.length_append, List.length_cons, List.length_nil, List.length_map, List.length_replicate, rep_len] ; omega) | (simp only [List.length_append, List.length_cons, List.length_nil, List.length_map, List.length_replicate, rep_len] ; omega) | omega | (rw [sizeLine_eq] ; omega)) ?_)
          refine compL_all (fun x => ∃ order : List Int, x = .tup (order.map D.int) ∧ permN (1 + i) order) noG_any (le_sz (by rw [rangeD_length]; decide)) (fun d hd S3 sub N hN => ?_) (fun ev _ he => ?_)
          · simp only [wSeq, wNext, wIfS, wAsg, wRet, wRetN, wDrop, wOp, wUn, wgSub, wBM, z_tyd_lst,  wCB, wCons, wNil, wVar, wVarF, wC, wgName, wTe, wAnd, wOr, DL.wNot, wAndV, wOrV, wNotV, wIf, wCh, wEq, wNe, wIsi, wIsi2, wCall, wNever, wTup, wLst, wSl, wNoPart, wPart, wYes, endD, startR, newL_f, newL_t, List.map, List.length, List.length_cons, List.length_nil, List.getElem?_cons_zero, List.getElem?_cons_succ, List.set_cons_zero, List.set_cons_succ, List.cons_append, List.nil_append, List.append_nil, List.replicate, Nat.reduceSub, Nat.reduceAdd, Option.some.injEq, ex_some_iff, ex_bl_iff, ex_int_iff, ex_tup_iff, exists_eq_left', true_and, and_true, rd_non, rd_bl, rd_int, rd_str, rd_tup, rd_lst, pl_int, pl_bl, pl_non, pl_tup, pl_lst, pl_str, isNon_int, isNon_bl, isNon_non, isNon_tup, isNon_str, isNon_ref, isNon_lst, okD_int, okD_bl, okD_non, eqD_int, eqD_bl, eqD_non, Bool.false_eq_true, if_true, if_false, ite_true, ite_false, Bool.not_true, Bool.not_false, D.int.injEq, D.tup.injEq, D.lst.injEq, D.ref.injEq, D.bl.injEq, MO.lst.injEq, List.cons.injEq, reduceCtorEq, false_and, and_false, exists_const, and_assoc, exists_and_left, exists_eq_left, wLc, wiSeq, wipeR, id, wiEnum, wiZip, wiRng1, wiRng2, wgTup, lenOk, wgCons, wgNil, wFor, wLstRg1, z_in_lst, z_in_tup, flat_int, flat_ints, inD_ints, wRev, wDic0, wExtend,  z_ix_0, z_ixt_0, z_ix_1, z_ixt_1, z_ix_2, z_ixt_2, z_ix_3, z_ixt_3, z_ix_4, z_ixt_4, z_ix_5, z_ixt_5, z_ix_6, z_ixt_6, z_ix_7, z_ixt_7, z_ix_8, z_ixt_8, z_add_int, z_add_tup, z_add_lst, z_add_str, z_mul_int, z_mul_tup, z_mul_lst, z_ib_int, z_ii_int, z_neg_int, z_len_lst, z_len_tup, z_len_str, z_abs_int, z_int_int, z_cii_int, z_tuple_lst, z_tuple_tup, z_list_lst, z_list_tup, z_cut_lst, z_cut_tup, z_rev_lst, z_rev_tup, z_isN_, z_notN_, z_isB_, z_notB_, z_w1_, z_w2_, z_in_lst, z_in_tup, z_isK_int_int, z_isK_int_bl, z_isK_int_str, z_isK_int_tup, z_isK_int_lst, z_isK_int_dic, z_isK_int_non, z_isK_bool_int, z_isK_bool_bl, z_isK_bool_str, z_isK_bool_tup, z_isK_bool_lst, z_isK_bool_dic, z_isK_bool_non, z_isK_str_int, z_isK_str_bl, z_isK_str_str, z_isK_str_tup, z_isK_str_lst, z_isK_str_dic, z_isK_str_non, z_isK_tuple_int, z_isK_tuple_bl, z_isK_tuple_str, z_isK_tuple_tup, z_isK_tuple_lst, z_isK_tuple_dic, z_isK_tuple_non, z_isK_list_int, z_isK_list_bl, z_isK_list_str, z_isK_list_tup, z_isK_list_lst, z_isK_list_dic, z_isK_list_non, z_isK_dict_int, z_isK_dict_bl, z_isK_dict_str, z_isK_dict_tup, z_isK_dict_lst, z_isK_dict_dic, z_isK_dict_non, z_items_lst, z_items_tup, sp__law_shuffled]
            exact ⟨sub _ _ gt, by omega, by omega, fun order ho => hN _ ⟨order, rfl, ho⟩⟩
          · simp only [wSeq, wNext, wIfS, wAsg, wRet, wRetN, wDrop, wOp, wUn, wgSub, wBM, z_tyd_lst,  wCB, wCons, wNil, wVar, wVarF, wC, wgName, wTe, wAnd, wOr, DL.wNot, wAndV, wOrV, wNotV, wIf, wCh, wEq, wNe, wIsi, wIsi2, wCall, wNever, wTup, wLst, wSl, wNoPart, wPart, wYes, endD, startR, newL_f, newL_t, List.map, List.length, List.length_cons, List.length_nil, List.getElem?_cons_zero, List.getElem?_cons_succ, List.set_cons_zero, List.set_cons_succ, List.cons_append, List.nil_append, List.append_nil, List.replicate, Nat.reduceSub, Nat.reduceAdd, Option.some.injEq, ex_some_iff, ex_bl_iff, ex_int_iff, ex_tup_iff, exists_eq_left', true_and, and_true, rd_non, rd_bl, rd_int, rd_str, rd_tup, rd_lst, pl_int, pl_bl, pl_non, pl_tup, pl_lst, pl_str, isNon_int, isNon_bl, isNon_non, isNon_tup, isNon_str, isNon_ref, isNon_lst, okD_int, okD_bl, okD_non, eqD_int, eqD_bl, eqD_non, Bool.false_eq_true, if_true, if_false, ite_true, ite_false, Bool.not_true, Bool.not_false, D.int.injEq, D.tup.injEq, D.lst.injEq, D.ref.injEq, D.bl.injEq, MO.lst.injEq, List.cons.injEq, reduceCtorEq, false_and, and_false, exists_const, and_assoc, exists_and_left, exists_eq_left, wLc, wiSeq, wipeR, id, wiEnum, wiZip, wiRng1, wiRng2, wgTup, lenOk, wgCons, wgNil, wFor, wLstRg1, z_in_lst, z_in_tup, flat_int, flat_ints, inD_ints, wRev, wDic0, wExtend,  z_ix_0, z_ixt_0, z_ix_1, z_ixt_1, z_ix_2, z_ixt_2, z_ix_3, z_ixt_3, z_ix_4, z_ixt_4, z_ix_5, z_ixt_5, z_ix_6, z_ixt_6, z_ix_7, z_ixt_7, z_ix_8, z_ixt_8, z_add_int, z_add_tup, z_add_lst, z_add_str, z_mul_int, z_mul_tup, z_mul_lst, z_ib_int, z_ii_int, z_neg_int, z_len_lst, z_len_tup, z_len_str, z_abs_int, z_int_int, z_cii_int, z_tuple_lst, z_tuple_tup, z_list_lst, z_list_tup, z_cut_lst, z_cut_tup, z_rev_lst, z_rev_tup, z_isN_, z_notN_, z_isB_, z_notB_, z_w1_, z_w2_, z_in_lst, z_in_tup, z_isK_int_int, z_isK_int_bl, z_isK_int_str, z_isK_int_tup, z_isK_int_lst, z_isK_int_dic, z_isK_int_non, z_isK_bool_int, z_isK_bool_bl, z_isK_bool_str, z_isK_bool_tup, z_isK_bool_lst, z_isK_bool_dic, z_isK_bool_non, z_isK_str_int, z_isK_str_bl, z_isK_str_str, z_isK_str_tup, z_isK_str_lst, z_isK_str_dic, z_isK_str_non, z_isK_tuple_int, z_isK_tuple_bl, z_isK_tuple_str, z_isK_tuple_tup, z_isK_tuple_lst, z_isK_tuple_dic, z_isK_tuple_non, z_isK_list_int, z_isK_list_bl, z_isK_list_str, z_isK_list_tup, z_isK_list_lst, z_isK_list_dic, z_isK_list_non, z_isK_dict_int, z_isK_dict_bl, z_isK_dict_str, z_isK_dict_tup, z_isK_dict_lst, z_isK_dict_dic, z_isK_dict_non, z_items_lst, z_items_tup]
            exact go ev he)
theorem D_law (A : Al K mg) : Def P w K mg base CX0 6 "law" ["script"] sp_law := by
  obtain ⟨f, fd, Fu, hm, hb⟩ := fu_law A
  exact ⟨f, fd, O_law A Fu, hm, Fu.kp, hb⟩
theorem L_law (A : Al K mg) : ∃ f fd, mg "law" = some (.ref f) ∧ (∀ (s : Shared) (u : Value), BindsTo s fd ⟨[u], []⟩ [("script", u)]) ∧ ∀ base : Heap, FnOk P w K mg base CX0 6 f fd ["script"] (spD K sp_law) := by
  obtain ⟨fd, F⟩ := A.says.def_ 21 (d := d_law) rfl
  exact ⟨_, fd, A.g_law, fun s v => FunD.bindsA (ps := ["script"]) F (fun _ _ _ _ _ _ us hl => match us, hl with | [_], _ => rfl) s [v] rfl, fun base => O_law A F⟩
end
theorem law_ok (ds : List D) (S : MS) (Q : KV2) (E : DXC) : lawSp 63 ds S Q E → sp_law ds S Q E := by
  rintro ⟨ns, rfl, _, h, q⟩
  exact ⟨ns, rfl, (fun a m e => by rw [h a] at e; cases e), q⟩
end W38
namespace W38
open PySem PySem.Spec PyProof.Rows L2 DL
abbrev R : PySem.W.OpenRow := PySem.W.OpenLaw.row PySem.Challenge.rw_layertold_k38_whole_screens_judged_and_p
abbrev hk : PySem.W.Hook := hookN 4 fa fn
def ob (s : PySem.W.SharedT) : He.AlD := obsN 4 fa fn (HandSHeadRun.getT s)
theorem ob_eq (s : PySem.W.SharedT) : ob s = hk.obs s.abs := obsN_eq (HandSHeadRun.getT_eq s)
def loose0 : List PySem.Str := ["is_integer", "is_within", "is_tuple", "EarthError", "NoOrder", "NoCount", "NoScreen", "check_count", "is_state", "is_screen_of", "is_screen", "passing", "is_order_of", "passes_screen", "_law_hand", "_law_draw", "_law_some", "_law_is", "_law_int", "_law_shuffled", "_law_screen", "_law_is_screen", "_law_passes", "_law_bent", "_law_orders", "MOST_COUNT", "MOST_STATES"]
def loose : List PySem.Str := loose0
theorem run (w : World) : HandSHeadRun.RunEq R (PySem.W.view R.prog [32]) hk ob 4000 loose w := by
  intro os
  kernel_rfl
end W38
open PySem PySem.W PySem.Calls PyProof.Rows
theorem PySem.Challenge.cw_layertold_k38_whole_screens_judged_and_p_holds : PySem.Challenge.rw_layertold_k38_whole_screens_judged_and_p.Holds := by
  w_on; o_law
  refine HandSHeadRun.head_any (r := OpenLaw.row PySem.Challenge.rw_layertold_k38_whole_screens_judged_and_p) (q := view (OpenLaw.row PySem.Challenge.rw_layertold_k38_whole_screens_judged_and_p).prog [32]) (H := W38.hk) (ob := W38.ob) (M := 4000) (loose := W38.loose) (d := HandSHeadRun.topDef (OpenLaw.row PySem.Challenge.rw_layertold_k38_whole_screens_judged_and_p).prog 32) (kwd := []) W38.ob_eq
    (by kernel_rfl) (fun s => by kernel_rfl) W38.run (by kernel_rfl) (by kernel_rfl) (by kernel_rfl) (by rfl) (by first | assumption | decide +kernel) (by decide +kernel) ⟨rfl, rfl, rfl, rfl, rfl, by decide +kernel⟩ ?hw ?hc
  case hw => w_witness2
  case hc => exact DL.walk_law (l := PySem.Challenge.rw_layertold_k38_whole_screens_judged_and_p) (n := 63) (k := 6) (sp := W38.sp_law) rfl (by decide) (by kernel_rfl) ⟨rfl, by decide, by decide⟩ (by kernel_rfl) W38.law_ok fun w K mg h X G c => W38.L_law ⟨c, h, X, G⟩
