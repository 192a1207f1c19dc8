import PyProof.Rows.All
import Wide.All
import OpenK.AllK
import Wide.FinOn
import HandS.Base
import HandS.Call
import HandS.List
import HandS.Comp
import HandS.Ends
import HandS.Dict
import HandS.Iter
import HandS.Text
import HandS.Exc
import HandS.Walk
import HandS.IsInst
import HandS.Property
import HandS.Defaults
import KE.KTupSum
import HandS.More
import HandS.Star
import HandS.MakeKwOnly
import HandS.OwnEq
import KE.KOpsOwn
import PyProof.InstNe
import HandS.Zip
import HandS.Rev
import KE.GoesMore
import KE.KDictZip
import HandS.TupAny
import PyProof.ReprReads
import PyProof.ReprRoads
import PyProof.ReprBulk
import PyProof.Rows.RegStrFacts
import HandS.Style
import KE.KStateDown
import HandS.Words
import HandS.Head0
import HandS.Head1
import HandS.Head2
import HandS.HeadEnd
import HandS.HeadHook1
import HandS.HeadHook2
import Lean
import PySem.Challenge.RW_roundrates_k00_whole_daily_links
set_option Elab.async false
set_option linter.all false
set_option maxRecDepth 100000
set_option maxHeartbeats 4000000
/-! Dl: data in the place of the heap. D is a datum (a tree), Rep says which value bears it, Step how the heap may go on, Env what a frame's names hold. -/
namespace Dl
open PySem PySem.Spec PyProof.Rows L2

/-- a datum -/
inductive D where
  | non | bl (b : Bool) | int (i : Int) | str (s : Str)
  | lst (xs : List D) | tup (xs : List D)
  /-- a list that nobody changes: the script -/
  | frl (xs : List D)
  | dct (kvs : List (Key × D)) | obj (c : Str) (fs : List (Str × D))

/-- all that is tracked stays -/
def Ex (H H' : Hp) : Prop := ∀ a o, H a = some o → H' a = some o
theorem Ex.refl (H : Hp) : Ex H H := fun _ _ h => h
theorem Ex.trans {H H1 H2 : Hp} (a : Ex H H1) (b : Ex H1 H2) : Ex H H2 := fun x o h => b x o (a x o h)
theorem Ex.new {H : Hp} {p : Addr} {o : HO} (h : H p = none) : Ex H (upd H p o) := fun a u e => by
  rw [upd_ne (ne_of_none e h)]
  exact e
theorem Ex.none {H H' : Hp} (e : Ex H H') {p : Addr} (h : H' p = none) : H p = none := by
  cases q : H p with
  | none => rfl
  | some o =>
    rw [e p o q] at h
    cases h
theorem Ex.rd {H H' : Hp} {a : Addr} {u : HO} (e : Ex H H') (h : Rd H a u) : Rd H' a u := by
  rcases h with h | ⟨o, h⟩
  · exact .inl (e a _ h)
  · exact .inr ⟨o, e a _ h⟩
theorem Ex.t {K : PySem.W.Frag} {H H' : Hp} {a : Addr} {xs : List V} (e : Ex H H') (h : SqT K H a xs) : SqT K H' a xs := by
  rcases h with h | h
  · exact .inl (e.rd h)
  · exact .inr h
theorem Ex.l {K : PySem.W.Frag} {H H' : Hp} {a : Addr} {xs : List V} (e : Ex H H') (h : SqL K H a xs) : SqL K H' a xs := by
  rcases h with h | h
  · exact .inl (e.rd h)
  · exact .inr h

/-- the world around: the program, the written part, the classes by their names -/
structure Gb where
  P : Program
  w : World
  K : PySem.W.Frag
  mg : Str → Option Value
  base : Heap
  cl : Str → Addr

section
variable (g : Gb) (S : Hp)
mutual
/-- v bears d in S -/
def Rep : D → V → Prop
  | .non, v => v = .non
  | .bl b, v => v = .bl b
  | .int i, v => v = .int i
  | .str s, v => v = .str s
  | .lst xs, v => ∃ a vs, v = .ref a ∧ S a = some (.lst vs) ∧ Reps xs vs
  | .tup xs, v => ∃ a vs, v = .ref a ∧ SqT g.K S a vs ∧ Reps xs vs
  | .frl xs, v => ∃ a vs, v = .ref a ∧ SqL g.K S a vs ∧ Reps xs vs
  | .dct kvs, v => ∃ a ws, v = .ref a ∧ Rd S a (.dK ws) ∧ RepK kvs ws
  | .obj c fs, v => ∃ a dx gs, v = .ref a ∧ S a = some (.ins (g.cl c) dx gs) ∧ RepF fs gs
def Reps : List D → List V → Prop
  | [], vs => vs = []
  | d :: ds, vs => ∃ v r, vs = v :: r ∧ Rep d v ∧ Reps ds r
def RepK : List (Key × D) → List (Key × V) → Prop
  | [], vs => vs = []
  | (k, d) :: ds, vs => ∃ v r, vs = (k, v) :: r ∧ Rep d v ∧ RepK ds r
def RepF : List (Str × D) → List (Str × V) → Prop
  | [], vs => vs = []
  | (k, d) :: ds, vs => ∃ v r, vs = (k, v) :: r ∧ Rep d v ∧ RepF ds r
end
end

section
variable {g : Gb} {S S' : Hp}
mutual
theorem Rep.mono (e : Ex S S') : ∀ (d : D) (v : V), Rep g S d v → Rep g S' d v
  | .non, v, h => by simpa only [Rep] using h
  | .bl b, v, h => by simpa only [Rep] using h
  | .int i, v, h => by simpa only [Rep] using h
  | .str s, v, h => by simpa only [Rep] using h
  | .lst xs, v, h => by
    simp only [Rep] at h ⊢
    obtain ⟨a, vs, h1, h2, h3⟩ := h
    exact ⟨a, vs, h1, e _ _ h2, Reps.mono e xs vs h3⟩
  | .tup xs, v, h => by
    simp only [Rep] at h ⊢
    obtain ⟨a, vs, h1, h2, h3⟩ := h
    exact ⟨a, vs, h1, e.t h2, Reps.mono e xs vs h3⟩
  | .frl xs, v, h => by
    simp only [Rep] at h ⊢
    obtain ⟨a, vs, h1, h2, h3⟩ := h
    exact ⟨a, vs, h1, e.l h2, Reps.mono e xs vs h3⟩
  | .dct kvs, v, h => by
    simp only [Rep] at h ⊢
    obtain ⟨a, vs, h1, h2, h3⟩ := h
    exact ⟨a, vs, h1, e.rd h2, RepK.mono e kvs vs h3⟩
  | .obj c fs, v, h => by
    simp only [Rep] at h ⊢
    obtain ⟨a, dx, vs, h1, h2, h3⟩ := h
    exact ⟨a, dx, vs, h1, e _ _ h2, RepF.mono e fs vs h3⟩
theorem Reps.mono (e : Ex S S') : ∀ (ds : List D) (vs : List V), Reps g S ds vs → Reps g S' ds vs
  | [], vs, h => by simpa only [Reps] using h
  | d :: ds, vs, h => by
    simp only [Reps] at h ⊢
    obtain ⟨v, r, h1, h2, h3⟩ := h
    exact ⟨v, r, h1, Rep.mono e d v h2, Reps.mono e ds r h3⟩
theorem RepK.mono (e : Ex S S') : ∀ (ds : List (Key × D)) (vs : List (Key × V)), RepK g S ds vs → RepK g S' ds vs
  | [], vs, h => by simpa only [RepK] using h
  | (k, d) :: ds, vs, h => by
    simp only [RepK] at h ⊢
    obtain ⟨v, r, h1, h2, h3⟩ := h
    exact ⟨v, r, h1, Rep.mono e d v h2, RepK.mono e ds r h3⟩
theorem RepF.mono (e : Ex S S') : ∀ (ds : List (Str × D)) (vs : List (Str × V)), RepF g S ds vs → RepF g S' ds vs
  | [], vs, h => by simpa only [RepF] using h
  | (k, d) :: ds, vs, h => by
    simp only [RepF] at h ⊢
    obtain ⟨v, r, h1, h2, h3⟩ := h
    exact ⟨v, r, h1, Rep.mono e d v h2, RepF.mono e ds r h3⟩
end
theorem Reps.length : ∀ {ds : List D} {vs : List V}, Reps g S ds vs → vs.length = ds.length
  | [], vs, h => by simp only [Reps] at h; rw [h]; rfl
  | d :: ds, vs, h => by
    simp only [Reps] at h
    obtain ⟨v, r, rfl, _, h3⟩ := h
    simp only [List.length_cons, Reps.length h3]
theorem Reps.get : ∀ {ds : List D} {vs : List V} {i : Nat} {v : V}, Reps g S ds vs → vs[i]? = some v → ∃ d, ds[i]? = some d ∧ Rep g S d v
  | [], vs, i, v, h, e => by simp only [Reps] at h; subst h; simp at e
  | d :: ds, vs, i, v, h, e => by
    simp only [Reps] at h
    obtain ⟨u, r, rfl, h2, h3⟩ := h
    cases i with
    | zero => simp at e; subst e; exact ⟨d, rfl, h2⟩
    | succ i => simpa using Reps.get (i := i) h3 (by simpa using e)
theorem Reps.get' : ∀ {ds : List D} {vs : List V} {i : Nat} {d : D}, Reps g S ds vs → ds[i]? = some d → ∃ v, vs[i]? = some v ∧ Rep g S d v
  | [], vs, i, d, h, e => by simp at e
  | d' :: ds, vs, i, d, h, e => by
    simp only [Reps] at h
    obtain ⟨u, r, rfl, h2, h3⟩ := h
    cases i with
    | zero => simp at e; subst e; exact ⟨u, rfl, h2⟩
    | succ i => simpa using Reps.get' (i := i) h3 (by simpa using e)
theorem Reps.append : ∀ {ds es : List D} {vs ws : List V}, Reps g S ds vs → Reps g S es ws → Reps g S (ds ++ es) (vs ++ ws)
  | [], es, vs, ws, h, k => by simp only [Reps] at h; subst h; exact k
  | d :: ds, es, vs, ws, h, k => by
    simp only [Reps] at h
    obtain ⟨u, r, rfl, h2, h3⟩ := h
    simp only [List.cons_append, Reps]
    exact ⟨u, r ++ ws, rfl, h2, Reps.append h3 k⟩
theorem Reps.one {d : D} {v : V} (h : Rep g S d v) : Reps g S [d] [v] := by
  simp only [Reps]
  exact ⟨v, [], rfl, h, rfl⟩
theorem Reps.cons {d : D} {v : V} {ds : List D} {vs : List V} (h : Rep g S d v) (k : Reps g S ds vs) : Reps g S (d :: ds) (v :: vs) := by
  simp only [Reps]
  exact ⟨v, vs, rfl, h, k⟩
theorem Reps.nil : Reps g S [] [] := by simp only [Reps]
theorem Reps.uncons {d : D} {ds : List D} {v : V} {vs : List V} (h : Reps g S (d :: ds) (v :: vs)) : Rep g S d v ∧ Reps g S ds vs := by
  simp only [Reps] at h
  obtain ⟨u, r, e, h2, h3⟩ := h
  cases e
  exact ⟨h2, h3⟩
theorem Reps.drop : ∀ {ds : List D} {vs : List V} (n : Nat), Reps g S ds vs → Reps g S (ds.drop n) (vs.drop n)
  | ds, vs, 0, h => h
  | [], vs, n + 1, h => by simp only [Reps] at h; subst h; simp only [List.drop_nil, Reps]
  | d :: ds, vs, n + 1, h => by
    simp only [Reps] at h
    obtain ⟨u, r, rfl, h2, h3⟩ := h
    exact Reps.drop n h3
theorem Reps.take : ∀ {ds : List D} {vs : List V} (n : Nat), Reps g S ds vs → Reps g S (ds.take n) (vs.take n)
  | ds, vs, 0, h => by simp only [List.take_zero, Reps]
  | [], vs, n + 1, h => by simp only [Reps] at h; subst h; simp only [List.take_nil, Reps]
  | d :: ds, vs, n + 1, h => by
    simp only [Reps] at h
    obtain ⟨u, r, rfl, h2, h3⟩ := h
    exact Reps.cons h2 (Reps.take n h3)
theorem Reps.dropLast {ds : List D} {vs : List V} (h : Reps g S ds vs) : Reps g S ds.dropLast vs.dropLast := by
  rw [List.dropLast_eq_take, List.dropLast_eq_take, h.length]
  exact h.take _
theorem Reps.set : ∀ {ds : List D} {vs : List V} (n : Nat) {d : D} {v : V}, Reps g S ds vs → Rep g S d v → Reps g S (ds.set n d) (vs.set n v)
  | [], vs, n, d, v, h, k => by simp only [Reps] at h; subst h; simp only [List.set_nil, Reps]
  | e :: ds, vs, 0, d, v, h, k => by
    simp only [Reps] at h
    obtain ⟨u, r, rfl, h2, h3⟩ := h
    exact Reps.cons k h3
  | e :: ds, vs, n + 1, d, v, h, k => by
    simp only [Reps] at h
    obtain ⟨u, r, rfl, h2, h3⟩ := h
    exact Reps.cons h2 (Reps.set n h3 k)
theorem Reps.rev : ∀ {ds : List D} {vs : List V}, Reps g S ds vs → Reps g S ds.reverse vs.reverse
  | [], vs, h => by simp only [Reps] at h; subst h; simp only [List.reverse_nil, Reps]
  | d :: ds, vs, h => by
    simp only [Reps] at h
    obtain ⟨u, r, rfl, h2, h3⟩ := h
    rw [List.reverse_cons, List.reverse_cons]
    exact (Reps.rev h3).append (Reps.one h2)
theorem Reps.ints : ∀ {ns : List Int} {vs : List V}, Reps g S (ns.map D.int) vs → vs = ns.map V.int
  | [], vs, h => by simpa only [List.map_nil, Reps] using h
  | n :: ns, vs, h => by
    simp only [List.map_cons, Reps, Rep] at h
    obtain ⟨v, r, rfl, rfl, h3⟩ := h
    rw [Reps.ints h3]; rfl
theorem Reps.bls : ∀ {ns : List Bool} {vs : List V}, Reps g S (ns.map D.bl) vs → vs = ns.map V.bl
  | [], vs, h => by simpa only [List.map_nil, Reps] using h
  | n :: ns, vs, h => by
    simp only [List.map_cons, Reps, Rep] at h
    obtain ⟨v, r, rfl, rfl, h3⟩ := h
    rw [Reps.bls h3]; rfl
theorem Reps.strs : ∀ {ns : List Str} {vs : List V}, Reps g S (ns.map D.str) vs → vs = ns.map V.str
  | [], vs, h => by simpa only [List.map_nil, Reps] using h
  | n :: ns, vs, h => by
    simp only [List.map_cons, Reps, Rep] at h
    obtain ⟨v, r, rfl, rfl, h3⟩ := h
    rw [Reps.strs h3]; rfl
theorem Reps.of_ints : ∀ {ns : List Int}, Reps g S (ns.map D.int) (ns.map V.int)
  | [] => by simp only [List.map_nil, Reps]
  | n :: ns => by
    simp only [List.map_cons]
    exact Reps.cons (by simp only [Rep]) Reps.of_ints
theorem Reps.of_strs : ∀ {ns : List Str}, Reps g S (ns.map D.str) (ns.map V.str)
  | [] => by simp only [List.map_nil, Reps]
  | n :: ns => by
    simp only [List.map_cons]
    exact Reps.cons (by simp only [Rep]) Reps.of_strs
theorem RepF.lookup : ∀ {fs : List (Str × D)} {gs : List (Str × V)} {f : Str} {d : D}, RepF g S fs gs → fs.lookup f = some d → ∃ v, gs.lookup f = some v ∧ Rep g S d v
  | [], gs, f, d, h, e => by simp at e
  | (k, d') :: fs, gs, f, d, h, e => by
    simp only [RepF] at h
    obtain ⟨u, r, rfl, h2, h3⟩ := h
    rw [List.lookup_cons] at e ⊢
    cases q : (f == k) with
    | true => rw [q] at e; simp at e; subst e; exact ⟨u, rfl, h2⟩
    | false => rw [q] at e; simpa [q] using RepF.lookup h3 e
theorem RepF.lookup_none : ∀ {fs : List (Str × D)} {gs : List (Str × V)} {f : Str}, RepF g S fs gs → fs.lookup f = none → gs.lookup f = none
  | [], gs, f, h, e => by simp only [RepF] at h; subst h; rfl
  | (k, d') :: fs, gs, f, h, e => by
    simp only [RepF] at h
    obtain ⟨u, r, rfl, h2, h3⟩ := h
    rw [List.lookup_cons] at e ⊢
    cases q : (f == k) with
    | true => rw [q] at e; cases e
    | false => rw [q] at e; simpa [q] using RepF.lookup_none h3 e
theorem RepF.length : ∀ {ds : List (Str × D)} {vs : List (Str × V)}, RepF g S ds vs → vs.length = ds.length
  | [], vs, h => by simp only [RepF] at h; rw [h]; rfl
  | d :: ds, vs, h => by
    obtain ⟨k, d⟩ := d
    simp only [RepF] at h
    obtain ⟨v, r, rfl, _, h3⟩ := h
    simp only [List.length_cons, RepF.length h3]
theorem RepF.put : ∀ {fs : List (Str × D)} {gs : List (Str × V)} {f : Str} {d : D} {v : V}, RepF g S fs gs → fs.lookup f = none → Rep g S d v → RepF g S (fs ++ [(f, d)]) (putF f v gs)
  | [], gs, f, d, v, h, e, k => by
    simp only [RepF] at h
    subst h
    show RepF g S [(f, d)] [(f, v)]
    simp only [RepF]
    exact ⟨v, [], rfl, k, rfl⟩
  | (n, d') :: fs, gs, f, d, v, h, e, k => by
    simp only [RepF] at h
    obtain ⟨u, r, rfl, h2, h3⟩ := h
    rw [List.lookup_cons] at e
    cases q : (f == n) with
    | true => rw [q] at e; cases e
    | false =>
      rw [q] at e
      have e1 : putF f v ((n, u) :: r) = (n, u) :: putF f v r := if_neg (fun z => by rw [z] at q; simp at q)
      rw [e1]
      show RepF g S ((n, d') :: (fs ++ [(f, d)])) _
      simp only [RepF]
      exact ⟨u, _, rfl, h2, RepF.put h3 e k⟩
end

/-! ### the law's own state of draws -/
/-- where it stands: the dict, its list of great digits, its list of cells -/
structure StA where
  a : Addr
  g : Addr
  c : Addr
  /-- the turns so far: at most this -/
  lim : Nat
def isSt : Option StA → Addr → Prop
  | none, _ => False
  | some t, l => l = t.a ∨ l = t.g
def stKvs (t : StA) (r n : Int) : List (Key × V) := [(.inr "great", .ref t.g), (.inr "cells", .ref t.c), (.inr "rest", .int r), (.inr "turn", .int n)]
def StOk : Option StA → Hp → Hp → Prop
  | none, _, _ => True
  | some t, S, H => ∃ (gs cs : List Int) (r : Int) (n : Fin (t.lim + 1)), H t.a = some (.dK (stKvs t r ((n : Nat) : Int))) ∧ H t.g = some (.lst (gs.map V.int)) ∧ S t.c = some (.lst (cs.map V.int)) ∧ S t.a = none ∧ S t.g = none
/-- the state of the heap: S what stays, H all of it -/
structure Ok (st : Option StA) (S H : Hp) : Prop where
  sub : Ex S H
  st : StOk st S H
/-- how it goes on: what stays grows, what is outside of it is not touched but for the draws -/
structure Step (st : Option StA) (S H S' H' : Hp) : Prop where
  ext : Ex S S'
  sub : Ex S' H'
  out : ∀ l o, H l = some o → S l = none → ¬ isSt st l → H' l = some o ∧ S' l = none
  st : StOk st S' H'
section
variable {st : Option StA} {S H S1 H1 S2 H2 : Hp}
theorem Step.ok (s : Step st S H S1 H1) : Ok st S1 H1 := ⟨s.sub, s.st⟩
theorem Step.refl (o : Ok st S H) : Step st S H S H := ⟨Ex.refl S, o.sub, fun _ _ h n _ => ⟨h, n⟩, o.st⟩
theorem Step.trans (a : Step st S H S1 H1) (b : Step st S1 H1 S2 H2) : Step st S H S2 H2 :=
  ⟨a.ext.trans b.ext, b.sub, fun l o h n k => let ⟨h1, n1⟩ := a.out l o h n k; b.out l o h1 n1 k, b.st⟩
theorem Step.back (o : Ok st S H) (a : Step st S H S1 H1) {l : Addr} (h : H1 l = none) : H l = none := by
  cases q : H l with
  | none => rfl
  | some u =>
    by_cases n : S l = none
    · by_cases k : isSt st l
      · cases st with
        | none => exact k.elim
        | some t =>
          obtain ⟨gs, cs, r, m, h1, h2, _⟩ := a.st
          rcases k with k | k
          · rw [k, h1] at h; cases h
          · rw [k, h2] at h; cases h
      · rw [(a.out l u q n k).1] at h; cases h
    · cases e : S l with
      | none => exact absurd e n
      | some v => rw [a.sub l v (a.ext l v e)] at h; cases h
theorem Ok.st_some (o : Ok st S H) {l : Addr} (k : isSt st l) : ∃ u, H l = some u := by
  cases st with
  | none => exact k.elim
  | some t =>
    obtain ⟨gs, cs, r, m, h1, h2, _⟩ := o.st
    rcases k with k | k
    · rw [k]; exact ⟨_, h1⟩
    · rw [k]; exact ⟨_, h2⟩
/-- a new object that stays -/
theorem Step.new (o : Ok st S H) {p : Addr} {u : HO} (h : H p = none) : Step st S H (upd S p u) (upd H p u) := by
  have hs : S p = none := o.sub.none h
  have ne : ∀ l v, H l = some v → l ≠ p := fun l v e => ne_of_none e h
  refine ⟨Ex.new hs, fun a v e => ?_, fun l v e n k => ⟨by rw [upd_ne (ne l v e)]; exact e, by rw [upd_ne (ne l v e)]; exact n⟩, ?_⟩
  · by_cases q : a = p
    · subst q; rw [upd_same] at e ⊢; exact e
    · rw [upd_ne q] at e ⊢; exact o.sub a v e
  · cases st with
    | none => trivial
    | some t =>
      obtain ⟨gs, cs, r, m, h1, h2, h3, h4, h5⟩ := o.st
      refine ⟨gs, cs, r, m, ?_, ?_, ?_, ?_, ?_⟩
      · rw [upd_ne (ne _ _ h1)]; exact h1
      · rw [upd_ne (ne _ _ h2)]; exact h2
      · rw [upd_ne (ne _ _ (o.sub _ _ h3))]; exact h3
      · rw [upd_ne (ne _ _ h1)]; exact h4
      · rw [upd_ne (ne _ _ h2)]; exact h5
/-- a new object that does not stay -/
theorem Step.newOut (o : Ok st S H) {p : Addr} {u : HO} (h : H p = none) : Step st S H S (upd H p u) := by
  have ne : ∀ l v, H l = some v → l ≠ p := fun l v e => ne_of_none e h
  refine ⟨Ex.refl S, fun a v e => by rw [upd_ne (ne _ _ (o.sub _ _ e))]; exact o.sub a v e, fun l v e n k => ⟨by rw [upd_ne (ne l v e)]; exact e, n⟩, ?_⟩
  cases st with
  | none => trivial
  | some t =>
    obtain ⟨gs, cs, r, m, h1, h2, h3, h4, h5⟩ := o.st
    refine ⟨gs, cs, r, m, ?_, ?_, h3, h4, h5⟩
    · rw [upd_ne (ne _ _ h1)]; exact h1
    · rw [upd_ne (ne _ _ h2)]; exact h2
/-- what was outside, and nobody's, comes to stay -/
theorem Step.keep (a : Step st S H S1 H1) {p : Addr} {u : HO} (h : H p = none) (h1 : H1 p = some u) (n : S1 p = none) (k : ¬ isSt st p) : Step st S H (upd S1 p u) H1 := by
  have ne : ∀ l v, H l = some v → l ≠ p := fun l v e => ne_of_none e h
  refine ⟨a.ext.trans (Ex.new n), fun b v e => ?_, fun l v e n2 k2 => ⟨(a.out l v e n2 k2).1, by rw [upd_ne (ne l v e)]; exact (a.out l v e n2 k2).2⟩, ?_⟩
  · by_cases q : b = p
    · subst q; rw [upd_same] at e; cases e; exact h1
    · rw [upd_ne q] at e; exact a.sub b v e
  · cases st with
    | none => trivial
    | some t =>
      obtain ⟨gs, cs, r, m, e1, e2, e3, e4, e5⟩ := a.st
      refine ⟨gs, cs, r, m, e1, e2, ?_, ?_, ?_⟩
      · rw [upd_ne (ne_of_none e3 n)]; exact e3
      · rw [upd_ne (fun q => k (.inl q.symm))]; exact e4
      · rw [upd_ne (fun q => k (.inr q.symm))]; exact e5
/-- an object outside, that was not there at the start, is written -/
theorem Step.write (a : Step st S H S1 H1) {p : Addr} {u : HO} (h : H p = none) (n : S1 p = none) (k : ¬ isSt st p) : Step st S H S1 (upd H1 p u) := by
  have ne : ∀ l v, H l = some v → l ≠ p := fun l v e => ne_of_none e h
  refine ⟨a.ext, fun b v e => by rw [upd_ne (ne_of_none e n)]; exact a.sub b v e, fun l v e n2 k2 => ⟨by rw [upd_ne (ne l v e)]; exact (a.out l v e n2 k2).1, (a.out l v e n2 k2).2⟩, ?_⟩
  cases st with
  | none => trivial
  | some t =>
    obtain ⟨gs, cs, r, m, e1, e2, e3, e4, e5⟩ := a.st
    refine ⟨gs, cs, r, m, ?_, ?_, e3, e4, e5⟩
    · rw [upd_ne (fun q => k (.inl q.symm))]; exact e1
    · rw [upd_ne (fun q => k (.inr q.symm))]; exact e2
end

/-! ### more turns are allowed -/
def up (st : Option StA) (c : Nat) : Option StA := match st with
  | none => none
  | some t => some { t with lim := t.lim + c }
theorem up_up {st : Option StA} {a b : Nat} : up (up st a) b = up st (a + b) := by
  cases st with
  | none => rfl
  | some t => simp only [up, Nat.add_assoc]
theorem up_zero {st : Option StA} : up st 0 = st := by
  cases st with
  | none => rfl
  | some t => rfl
theorem isSt_up {st : Option StA} {c : Nat} {l : Addr} : isSt (up st c) l ↔ isSt st l := by
  cases st with
  | none => exact Iff.rfl
  | some t => exact Iff.rfl
section
variable {st : Option StA} {S H S1 H1 S2 H2 : Hp} {c : Nat}
theorem StOk.up (h : StOk st S H) : StOk (up st c) S H := by
  cases st with
  | none => trivial
  | some t =>
    obtain ⟨gs, cs, r, n, h1, h2, h3, h4, h5⟩ := h
    exact ⟨gs, cs, r, ⟨n.1, by have := n.2; show n.1 < t.lim + c + 1; omega⟩, h1, h2, h3, h4, h5⟩
theorem Ok.up (o : Ok st S H) : Ok (up st c) S H := ⟨o.sub, o.st.up⟩
theorem Step.up (s : Step st S H S1 H1) : Step (up st c) S H S1 H1 := ⟨s.ext, s.sub, fun l u h n k => s.out l u h n fun z => k (isSt_up.mpr z), s.st.up⟩
theorem Step.tr (a : Step st S H S1 H1) (b : Step (Dl.up st c) S1 H1 S2 H2) : Step (Dl.up st c) S H S2 H2 := a.up.trans b
theorem Step.le {a b : Nat} (s : Step (Dl.up st a) S H S1 H1) (h : a ≤ b) : Step (Dl.up st b) S H S1 H1 := by
  have : b = a + (b - a) := by omega
  rw [this, ← up_up]
  exact s.up
end

/-! ### what an expression gives -/
inductive R where
  /-- a datum that stays -/
  | val (d : D)
  /-- a new list, nobody's; a new dict -/
  | fresh (xs : List D) | freshD (kvs : List (Key × D))
  /-- a list that somebody may change: o: a name of the frame's own, else one that was lent to it -/
  | brw (o : Bool) (xs : List D) | brwD (o : Bool) (kvs : List (Key × D))
  /-- the state of draws -/
  | stt
section
variable (g : Gb) (st : Option StA) (H0 S HS H : Hp)
/-- v bears r: in S and H, what is new was not in HS; H0: the frame's entry -/
def RepR : R → V → Prop
  | .val d, v => Rep g S d v
  | .fresh xs, v => ∃ l vs, v = .ref l ∧ H l = some (.lst vs) ∧ S l = none ∧ HS l = none ∧ ¬ isSt st l ∧ Reps g S xs vs
  | .freshD kvs, v => ∃ l ws, v = .ref l ∧ H l = some (.dK ws) ∧ S l = none ∧ HS l = none ∧ ¬ isSt st l ∧ RepK g S kvs ws
  | .brw o xs, v => ∃ l vs, v = .ref l ∧ H l = some (.lst vs) ∧ ¬ isSt st l ∧ (o = false → S l = none → H0 l ≠ none) ∧ Reps g S xs vs
  | .brwD o kvs, v => ∃ l ws, v = .ref l ∧ H l = some (.dK ws) ∧ ¬ isSt st l ∧ (o = false → S l = none → H0 l ≠ none) ∧ RepK g S kvs ws
  | .stt, v => ∃ t, st = some t ∧ v = .ref t.a
end
section
variable {g : Gb} {st : Option StA} {H0 S HS H S' H' : Hp} {r : R} {v : V}
theorem Step.at_ (s : Step st S H S' H') (o : Ok st S H) {l : Addr} {u : HO} (h : H l = some u) (k : ¬ isSt st l) : H' l = some u := by
  cases e : S l with
  | none => exact (s.out l u h e k).1
  | some w =>
    have h2 := o.sub l w e
    rw [h] at h2
    cases h2
    exact s.sub l u (s.ext l u e)
theorem RepR.step (h : RepR g st H0 S HS H r v) (o : Ok st S H) (s : Step st S H S' H') : RepR g st H0 S' HS H' r v := by
  cases r with
  | val d => exact Rep.mono s.ext d v h
  | fresh xs =>
    obtain ⟨l, vs, e, h1, h2, h3, h4, h5⟩ := h
    obtain ⟨k1, k2⟩ := s.out l _ h1 h2 h4
    exact ⟨l, vs, e, k1, k2, h3, h4, Reps.mono s.ext xs vs h5⟩
  | freshD xs =>
    obtain ⟨l, vs, e, h1, h2, h3, h4, h5⟩ := h
    obtain ⟨k1, k2⟩ := s.out l _ h1 h2 h4
    exact ⟨l, vs, e, k1, k2, h3, h4, RepK.mono s.ext xs vs h5⟩
  | brw b xs =>
    obtain ⟨l, vs, e, h1, h2, h3, h4⟩ := h
    exact ⟨l, vs, e, s.at_ o h1 h2, h2, fun q n => h3 q (s.ext.none n), Reps.mono s.ext xs vs h4⟩
  | brwD b xs =>
    obtain ⟨l, vs, e, h1, h2, h3, h4⟩ := h
    exact ⟨l, vs, e, s.at_ o h1 h2, h2, fun q n => h3 q (s.ext.none n), RepK.mono s.ext xs vs h4⟩
  | stt => exact h
/-- new since later is new since earlier -/
theorem RepR.since {HS' : Hp} (h : RepR g st H0 S HS H r v) (k : ∀ l, HS l = none → HS' l = none) : RepR g st H0 S HS' H r v := by
  cases r with
  | fresh xs =>
    obtain ⟨l, vs, e, h1, h2, h3, h4⟩ := h
    exact ⟨l, vs, e, h1, h2, k l h3, h4⟩
  | freshD xs =>
    obtain ⟨l, vs, e, h1, h2, h3, h4⟩ := h
    exact ⟨l, vs, e, h1, h2, k l h3, h4⟩
  | _ => exact h
/-- as a datum that stays -/
def R.dat : R → Option D
  | .val d => some d
  | .fresh xs => some (.lst xs)
  | .freshD kvs => some (.dct kvs)
  | _ => none
theorem RepR.dat {HS S1 H1 : Hp} {d : D} (h : RepR g st H0 S1 HS H1 r v) (s : Step st S HS S1 H1) (e : r.dat = some d) : ∃ S2, Step st S HS S2 H1 ∧ Ex S1 S2 ∧ Rep g S2 d v ∧ (∀ l, HS l ≠ none → S1 l = none → S2 l = none) := by
  cases r with
  | val d' => cases e; exact ⟨S1, s, Ex.refl _, h, fun _ _ n => n⟩
  | fresh xs =>
    cases e
    obtain ⟨l, vs, rfl, h1, h2, h3, h4, h5⟩ := h
    refine ⟨upd S1 l (.lst vs), s.keep h3 h1 h2 h4, Ex.new h2, ?_, fun p hp n => ?_⟩
    · simp only [Rep]
      exact ⟨l, vs, rfl, upd_same, Reps.mono (Ex.new h2) xs vs h5⟩
    · rw [upd_ne (fun q => hp (by rw [q]; exact h3))]; exact n
  | freshD xs =>
    cases e
    obtain ⟨l, vs, rfl, h1, h2, h3, h4, h5⟩ := h
    refine ⟨upd S1 l (.dK vs), s.keep h3 h1 h2 h4, Ex.new h2, ?_, fun p hp n => ?_⟩
    · simp only [Rep]
      exact ⟨l, vs, rfl, .inl upd_same, RepK.mono (Ex.new h2) xs vs h5⟩
    · rw [upd_ne (fun q => hp (by rw [q]; exact h3))]; exact n
  | brw _ _ => cases e
  | brwD _ _ => cases e
  | stt => cases e
/-- as a list that is read -/
def R.lv : R → Option (List D)
  | .val (.lst xs) => some xs
  | .fresh xs => some xs
  | .brw _ xs => some xs
  | _ => none
theorem RepR.lv {xs : List D} (h : RepR g st H0 S HS H r v) (o : Ok st S H) (e : r.lv = some xs) : ∃ l vs, v = .ref l ∧ H l = some (.lst vs) ∧ Reps g S xs vs := by
  cases r with
  | val d =>
    cases d with
    | lst ys =>
      cases e
      simp only [RepR, Rep] at h
      obtain ⟨a, vs, h1, h2, h3⟩ := h
      exact ⟨a, vs, h1, o.sub _ _ h2, h3⟩
    | _ => cases e
  | fresh ys =>
    cases e
    obtain ⟨l, vs, h1, h2, _, _, _, h3⟩ := h
    exact ⟨l, vs, h1, h2, h3⟩
  | brw _ ys =>
    cases e
    obtain ⟨l, vs, h1, h2, _, _, h3⟩ := h
    exact ⟨l, vs, h1, h2, h3⟩
  | _ => cases e
end

section
variable {g : Gb} {st : Option StA} {H0 S HS H S' H' : Hp} {r : R} {v : V} {c : Nat}
theorem RepR.up (h : RepR g st H0 S HS H r v) : RepR g (up st c) H0 S HS H r v := by
  cases r with
  | val d => exact h
  | fresh xs => obtain ⟨l, vs, e, h1, h2, h3, h4, h5⟩ := h; exact ⟨l, vs, e, h1, h2, h3, fun z => h4 (isSt_up.mp z), h5⟩
  | freshD xs => obtain ⟨l, vs, e, h1, h2, h3, h4, h5⟩ := h; exact ⟨l, vs, e, h1, h2, h3, fun z => h4 (isSt_up.mp z), h5⟩
  | brw b xs => obtain ⟨l, vs, e, h1, h2, h3, h4⟩ := h; exact ⟨l, vs, e, h1, fun z => h2 (isSt_up.mp z), h3, h4⟩
  | brwD b xs => obtain ⟨l, vs, e, h1, h2, h3, h4⟩ := h; exact ⟨l, vs, e, h1, fun z => h2 (isSt_up.mp z), h3, h4⟩
  | stt => obtain ⟨t, rfl, rfl⟩ := h; exact ⟨_, rfl, rfl⟩
theorem RepR.stp (h : RepR g st H0 S HS H r v) (o : Ok st S H) (s : Step (Dl.up st c) S H S' H') : RepR g (Dl.up st c) H0 S' HS H' r v := h.up.step o.up s
theorem RepR.le {a b : Nat} (s : RepR g (Dl.up st a) H0 S HS H r v) (h : a ≤ b) : RepR g (Dl.up st b) H0 S HS H r v := by
  have : b = a + (b - a) := by omega
  rw [this, ← up_up]
  exact s.up
end

/-! ### what a frame's names hold -/
inductive Sl where
  | non | val (d : D) | own (xs : List D) | ownD (kvs : List (Key × D)) | bor (xs : List D) | borD (kvs : List (Key × D)) | stt
  /-- the instance that is being made -/
  | ownO (a d : Addr) (c : Str) (fs : List (Str × D))
/-- may be changed by the frame -/
def Sl.mut : Sl → Bool
  | .own _ | .ownD _ | .ownO _ _ _ _ => true
  | _ => false
/-- stands at an address of its own -/
def Sl.heapy : Sl → Bool
  | .own _ | .ownD _ | .ownO _ _ _ _ | .bor _ | .borD _ => true
  | _ => false
section
variable (g : Gb) (st : Option StA) (H0 S H : Hp)
def SlOk (l : Addr) (x : Option (Option V)) : Sl → Prop
  | .non => True
  | .val d => ∃ v, x = some (some v) ∧ Rep g S d v
  | .own xs => ∃ vs, x = some (some (.ref l)) ∧ H l = some (.lst vs) ∧ S l = none ∧ H0 l = none ∧ ¬ isSt st l ∧ Reps g S xs vs
  | .ownD kvs => ∃ ws, x = some (some (.ref l)) ∧ H l = some (.dK ws) ∧ S l = none ∧ H0 l = none ∧ ¬ isSt st l ∧ RepK g S kvs ws
  | .bor xs => ∃ vs, x = some (some (.ref l)) ∧ H l = some (.lst vs) ∧ H0 l ≠ none ∧ ¬ isSt st l ∧ Reps g S xs vs
  | .borD kvs => ∃ ws, x = some (some (.ref l)) ∧ H l = some (.dK ws) ∧ H0 l ≠ none ∧ ¬ isSt st l ∧ RepK g S kvs ws
  | .stt => ∃ t, st = some t ∧ x = some (some (.ref t.a))
  | .ownO a d c fs => ∃ dx gs, x = some (some (.ref l)) ∧ H l = some (.ins (g.cl c) dx gs) ∧ S l = none ∧ H0 l = none ∧ ¬ isSt st l ∧ RepF g S fs gs ∧ l = a ∧ dx = d
structure Env (δ : List Sl) (σ : L2.St) : Prop where
  len : δ.length = σ.length
  ex : ∃ L : Nat → Addr, (∀ i s, δ[i]? = some s → SlOk g st H0 S H (L i) σ[i]? s) ∧ ∀ i j s t, i ≠ j → δ[i]? = some s → δ[j]? = some t → s.mut = true → t.heapy = true → L i ≠ L j
end
section
variable {g : Gb} {st : Option StA} {H0 S H S' H' : Hp} {δ : List Sl} {σ : L2.St} {l : Addr} {x : Option (Option V)} {s : Sl}
theorem SlOk.step (h : SlOk g st H0 S H l x s) (o : Ok st S H) (k : Step st S H S' H') : SlOk g st H0 S' H' l x s := by
  cases s with
  | non => trivial
  | val d => obtain ⟨v, e, h⟩ := h; exact ⟨v, e, Rep.mono k.ext d v h⟩
  | own xs =>
    obtain ⟨vs, e, h1, h2, h3, h4, h5⟩ := h
    obtain ⟨k1, k2⟩ := k.out l _ h1 h2 h4
    exact ⟨vs, e, k1, k2, h3, h4, Reps.mono k.ext xs vs h5⟩
  | ownD xs =>
    obtain ⟨vs, e, h1, h2, h3, h4, h5⟩ := h
    obtain ⟨k1, k2⟩ := k.out l _ h1 h2 h4
    exact ⟨vs, e, k1, k2, h3, h4, RepK.mono k.ext xs vs h5⟩
  | bor xs =>
    obtain ⟨vs, e, h1, h2, h3, h4⟩ := h
    exact ⟨vs, e, k.at_ o h1 h3, h2, h3, Reps.mono k.ext xs vs h4⟩
  | borD xs =>
    obtain ⟨vs, e, h1, h2, h3, h4⟩ := h
    exact ⟨vs, e, k.at_ o h1 h3, h2, h3, RepK.mono k.ext xs vs h4⟩
  | stt => exact h
  | ownO a d c fs =>
    obtain ⟨dx, gs, e, h1, h2, h0, h3, h4, h5⟩ := h
    obtain ⟨k1, k2⟩ := k.out l _ h1 h2 h3
    exact ⟨dx, gs, e, k1, k2, h0, h3, RepF.mono k.ext fs gs h4, h5⟩
theorem Env.step (h : Env g st H0 S H δ σ) (o : Ok st S H) (k : Step st S H S' H') : Env g st H0 S' H' δ σ := by
  obtain ⟨hl, L, h1, h2⟩ := h
  exact ⟨hl, L, fun i s e => (h1 i s e).step o k, h2⟩
theorem SlOk.up {c : Nat} (h : SlOk g st H0 S H l x s) : SlOk g (up st c) H0 S H l x s := by
  cases s with
  | own xs => obtain ⟨vs, e, h1, h2, h3, h4, h5⟩ := h; exact ⟨vs, e, h1, h2, h3, fun z => h4 (isSt_up.mp z), h5⟩
  | ownD xs => obtain ⟨vs, e, h1, h2, h3, h4, h5⟩ := h; exact ⟨vs, e, h1, h2, h3, fun z => h4 (isSt_up.mp z), h5⟩
  | bor xs => obtain ⟨vs, e, h1, h2, h3, h4⟩ := h; exact ⟨vs, e, h1, h2, fun z => h3 (isSt_up.mp z), h4⟩
  | borD xs => obtain ⟨vs, e, h1, h2, h3, h4⟩ := h; exact ⟨vs, e, h1, h2, fun z => h3 (isSt_up.mp z), h4⟩
  | ownO a d c fs => obtain ⟨dx, vs, e, h1, h2, h3, h4, h5⟩ := h; exact ⟨dx, vs, e, h1, h2, h3, fun z => h4 (isSt_up.mp z), h5⟩
  | stt => obtain ⟨t, rfl, e⟩ := h; exact ⟨_, rfl, e⟩
  | _ => exact h
theorem Env.up {c : Nat} (h : Env g st H0 S H δ σ) : Env g (up st c) H0 S H δ σ := by
  obtain ⟨hl, L, h1, h2⟩ := h
  exact ⟨hl, L, fun i s e => (h1 i s e).up, h2⟩
theorem Env.stp {c : Nat} (h : Env g st H0 S H δ σ) (o : Ok st S H) (k : Step (Dl.up st c) S H S' H') : Env g (Dl.up st c) H0 S' H' δ σ := h.up.step o.up k
theorem Env.le {a b : Nat} (e : Env g (Dl.up st a) H0 S H δ σ) (h : a ≤ b) : Env g (Dl.up st b) H0 S H δ σ := by
  have : b = a + (b - a) := by omega
  rw [this, ← up_up]
  exact Env.up e
/-- where a slot that may change stands there is something -/
theorem SlOk.there (h : SlOk g st H0 S H l x s) (hh : s.heapy = true) : ∃ u, H l = some u := by
  cases s with
  | own xs => obtain ⟨vs, e, h1, _⟩ := h; exact ⟨_, h1⟩
  | ownD xs => obtain ⟨vs, e, h1, _⟩ := h; exact ⟨_, h1⟩
  | bor xs => obtain ⟨vs, e, h1, _⟩ := h; exact ⟨_, h1⟩
  | borD xs => obtain ⟨vs, e, h1, _⟩ := h; exact ⟨_, h1⟩
  | ownO _ _ c fs => obtain ⟨vs, dx, e, h1, _⟩ := h; exact ⟨_, h1⟩
  | _ => cases hh
/-- a slot is stored: at p, apart from all that was there -/
theorem Env.set {i : Nat} {s : Sl} {v : V} (h : Env g st H0 S H δ σ) (p : Addr) (hs : i < δ.length → SlOk g st H0 S H p (some (some v)) s)
    (ha : s.heapy = true → ∀ j t q, j ≠ i → δ[j]? = some t → t.heapy = true → SlOk g st H0 S H q σ[j]? t → (s.mut = true ∨ t.mut = true) → p ≠ q) : Env g st H0 S H (δ.set i s) (σ.set i (some v)) := by
  obtain ⟨hl, L, h1, h2⟩ := h
  refine ⟨by rw [List.length_set, List.length_set]; exact hl, fun j => if j = i then p else L j, fun j t e => ?_, fun j k t u ne e1 e2 m1 m2 => ?_⟩
  · by_cases q : j = i
    · subst q
      have hj : j < δ.length := by
        have := (List.getElem?_eq_some_iff.mp e).1
        simpa using this
      rw [List.getElem?_set_self hj] at e
      cases e
      dsimp only
      rw [if_pos rfl, List.getElem?_set_self (by omega)]
      exact hs hj
    · rw [List.getElem?_set_ne (Ne.symm q)] at e
      dsimp only
      rw [if_neg q, List.getElem?_set_ne (Ne.symm q)]
      exact h1 j t e
  · have lti : ∀ {m : Nat} {w : Sl}, (δ.set i s)[m]? = some w → m = i → w = s := fun {m w} e q => by
      subst q
      have hj : m < δ.length := by
        have := (List.getElem?_eq_some_iff.mp e).1
        simpa using this
      rw [List.getElem?_set_self hj] at e
      exact (Option.some.inj e).symm
    by_cases q : j = i
    · have e1' := lti e1 q
      subst e1'
      have q2 : k ≠ i := fun z => ne (q.trans z.symm)
      rw [List.getElem?_set_ne (Ne.symm q2)] at e2
      dsimp only
      rw [if_pos q, if_neg q2]
      refine ha ?_ k u (L k) q2 e2 m2 (h1 k u e2) (.inl m1)
      cases t <;> first | rfl | cases m1
    · rw [List.getElem?_set_ne (Ne.symm q)] at e1
      dsimp only
      rw [if_neg q]
      by_cases q2 : k = i
      · have e2' := lti e2 q2
        subst e2'
        rw [if_pos q2]
        have hh : t.heapy = true := by cases t <;> first | rfl | cases m1
        exact Ne.symm (ha m2 j t (L j) q e1 hh (h1 j t e1) (.inr m1))
      · rw [List.getElem?_set_ne (Ne.symm q2)] at e2
        rw [if_neg q2]
        exact h2 j k t u ne e1 e2 m1 m2
theorem Env.set_val {i : Nat} {d : D} {v : V} (h : Env g st H0 S H δ σ) (r : Rep g S d v) : Env g st H0 S H (δ.set i (.val d)) (σ.set i (some v)) :=
  h.set 0 (fun _ => ⟨v, rfl, r⟩) fun z => by cases z
/-- a new list becomes a name's own -/
theorem Env.set_new {i : Nat} {HS : Hp} {r : R} {v : V} {s : Sl} (hb : Env g st H0 S' HS δ σ) (h : Env g st H0 S H δ σ) (hH0 : ∀ l, HS l = none → H0 l = none) (r' : RepR g st H0 S HS H r v) (e : (∃ xs, r = .fresh xs ∧ s = .own xs) ∨ ∃ kvs, r = .freshD kvs ∧ s = .ownD kvs) :
    Env g st H0 S H (δ.set i s) (σ.set i (some v)) := by
  obtain ⟨_, L, h1, _⟩ := hb
  rcases e with ⟨xs, rfl, rfl⟩ | ⟨xs, rfl, rfl⟩
  · obtain ⟨l, vs, rfl, k1, k2, k3, k4, k5⟩ := r'
    refine h.set l (fun _ => ⟨vs, rfl, k1, k2, hH0 l k3, k4, k5⟩) fun _ j t q ne e1 hh ok _ z => ?_
    obtain ⟨u, hu⟩ := (h1 j t e1).there hh
    have eq : q = L j := by
      have a1 := h1 j t e1
      revert ok a1
      cases t <;> simp only [SlOk] <;> first | (intro ok a1; obtain ⟨_, x1, _⟩ := ok; obtain ⟨_, x2, _⟩ := a1; rw [x1] at x2; simpa using x2) | (intro ok a1; obtain ⟨_, _, x1, _⟩ := ok; obtain ⟨_, _, x2, _⟩ := a1; rw [x1] at x2; simpa using x2) | cases hh
    rw [z, eq] at k3
    rw [k3] at hu
    cases hu
  · obtain ⟨l, vs, rfl, k1, k2, k3, k4, k5⟩ := r'
    refine h.set l (fun _ => ⟨vs, rfl, k1, k2, hH0 l k3, k4, k5⟩) fun _ j t q ne e1 hh ok _ z => ?_
    obtain ⟨u, hu⟩ := (h1 j t e1).there hh
    have eq : q = L j := by
      have a1 := h1 j t e1
      revert ok a1
      cases t <;> simp only [SlOk] <;> first | (intro ok a1; obtain ⟨_, x1, _⟩ := ok; obtain ⟨_, x2, _⟩ := a1; rw [x1] at x2; simpa using x2) | (intro ok a1; obtain ⟨_, _, x1, _⟩ := ok; obtain ⟨_, _, x2, _⟩ := a1; rw [x1] at x2; simpa using x2) | cases hh
    rw [z, eq] at k3
    rw [k3] at hu
    cases hu
end
end Dl

set_option Elab.async false
set_option linter.all false
set_option maxRecDepth 100000
set_option maxHeartbeats 4000000
/-! Dl: a short language (E, St) that a def's text is checked against (chkE, chkS), and what it means over data (wE, wS): what must hold so that the wanted end comes. -/
namespace Dl
open PySem PySem.Spec PyProof.Rows L2

inductive Cst where | non | bl (b : Bool) | int (i : Int) | str (s : Str)
def Cst.d : Cst → D
  | .non => .non | .bl b => .bl b | .int i => .int i | .str s => .str s
inductive BinO where | add | sub | mul | fdiv | mod | pow
  deriving DecidableEq
inductive CmO where | eq | ne | lt | le | gt | ge | is_ | isn | in_ | nin
  deriving DecidableEq
inductive Tg where | nm (i : Nat) | t2 (a b : Tg) | t3 (a b c : Tg)
inductive Ty where | b (n : String) | c (x : Str)

/-- operators on one thing, on two, calls of many: their parts run, then what w.. says -/
inductive Op1 where | inv (c : Str)
inductive Op2 where | ocm (o : CmO) (c : Str) | one (c : Str) | obn (o : Operator) (c : Str)
  /-- own compare with a tuple -/
  | ocv (o : CmO) (c : Str)
inductive OpN where | none_
inductive E where
  | var (i : Nat) | cst (c : Cst) | glc (x : Str)
  /-- state['cells'] -/
  | sgc (i : Nat)
  | bin (o : BinO) (a b : E) | neg (a : E)
  | cmp (o : CmO) (a b : E) | chn (o p : CmO) (a b c : E)
  | and_ (a b : E) | or_ (a b : E) | not_ (a : E) | ite (c a b : E)
  | nil | cons (a es : E)
  | tup (es : E) | lst (es : E)
  | idx (a b : E) | slc (a lo hi : E)
  | call (f : Str) (es : E) | callG (f : Str) (es : E) | mk (c : Str) (es : E) | meth (c m : Str) (o es : E) | attr (o : E) (f : Str) | prp (c f : Str) (o : E)
  | bi (b : String) (es : E) | ty (t : String) (es : E) | isi (a : E) (ts : List Ty)
  /-- m: at most so many turns (asked for where a turn may draw) -/
  | comp (elt : E) (t : Tg) (it : E) (cond : E) (own : List (Str × Nat)) (m : Nat)
  /-- C(k = a, ..): keywords alone -/
  | mkK (c : Str) (ks : List Str) (es : E)
  /-- C(a, ..) by another promise -/
  | mkV (c v : Str) (es : E)
  /-- repr(a), where no repr is under way -/
  | rpr (a : E)
  | op1 (o : Op1) (a : E) | op2 (o : Op2) (a b : E) | opn (o : OpN) (es : E)
  /-- as a test: the truth of a value -/
  | tr (a : E)
  /-- what is walked -/
  | itV (a : E) | itRng (es : E) | itEnum (a : E) | itZip (a b : E) | itRev (a : E)
  /-- zip of two lists, the target one name -/
  | itZipN (a b : E)

/-- what stands at the places -/
def permL {α : Type} (pm : List Nat) (xs : List α) : List α := pm.filterMap fun i => xs[i]?
/-! ### contexts -/
/-- an exception: its class, its fields -/
structure XD where
  c : Str
  fs : List (Str × D)
/-- how an argument is handed on: as a datum that stays, lent, the state of draws -/
inductive Kd where | v | b | bD | s
  /-- as a datum that stays, a name's list lent -/
  | a
abbrev DSp := List R → (R → Prop) → (XD → Prop) → Prop
structure FS where
  ks : List Kd
  sp : DSp
  mono : ∀ as (P P' : R → Prop) (X X' : XD → Prop), (∀ r, P r → P' r) → (∀ x, X x → X' x) → sp as P X → sp as P' X'
structure Ct where
  fn : Str → Option FS := fun _ => none
  /-- defs that ask what no repr is under way -/
  fnG : Str → Option FS := fun _ => none
  ini : Str → Option FS := fun _ => none
  me : Str → Str → Option FS := fun _ _ => none
  pr : Str → Str → Option FS := fun _ _ => none
  gc : Str → Option Cst := fun _ => none
  isa : Ty → Ty → Option Bool := fun _ _ => none
  /-- a class; a field of its instances -/
  fld : Str → Str → Bool := fun _ _ => false
  cls : Str → Bool := fun _ => false
  free : Str → Bool := fun _ => false
  /-- how many draws a call may do at most: of a def or class, of a method -/
  cf : Str → Nat := fun _ => 0
  cm : Str → Str → Nat := fun _ _ => 0
  /-- classes called by keywords alone: how the parameters take what is written -/
  inK : Str → List Str → Option (List Nat × FS) := fun _ _ => none
  ck : Str → List Str → Nat := fun _ _ => 0
  iniV : Str → Str → Option FS := fun _ _ => none
  cv : Str → Str → Nat := fun _ _ => 0
  /-- classes whose operators may be used, and whose != is object's -/
  own : Str → Bool := fun _ => false

/-! ### data as plain data -/
mutual
def D.py : D → Option PyData
  | .non => some .none
  | .bl b => some (.bool b)
  | .int i => some (.int i)
  | .str s => some (.str s)
  | .lst xs => match D.pys xs with | some l => some (.list l) | none => none
  | .tup xs => match D.pys xs with | some l => some (.tuple l) | none => none
  | .frl xs => match D.pys xs with | some l => some (.list l) | none => none
  | .dct _ => none
  | .obj _ _ => none
def D.pys : List D → Option (List PyData)
  | [] => some []
  | d :: ds => match D.py d, D.pys ds with | some p, some l => some (p :: l) | _, _ => none
end
def R.see : R → Option D
  | .val d => some d
  | .fresh xs => some (.lst xs)
  | .freshD kvs => some (.dct kvs)
  | .brw _ xs => some (.lst xs)
  | .brwD _ kvs => some (.dct kvs)
  | .stt => none
def D.isInts : List D → Option (List Int)
  | [] => some []
  | .int i :: r => match D.isInts r with | some l => some (i :: l) | none => none
  | _ :: _ => none
def D.isBls : List D → Option (List Bool)
  | [] => some []
  | .bl i :: r => match D.isBls r with | some l => some (i :: l) | none => none
  | _ :: _ => none

/-- small data, with short texts -/
def okP (p : PyData) : Bool := p.showable && p.canLay0 && decide (p.depth ≤ 8) && decide (p.bulk ≤ 8000)
def D.isNon : D → Bool
  | .non => true
  | _ => false
/-! ### meanings of operators -/
def wEq (neg : Bool) (a b : D) (P : R → Prop) : Prop := match a, b with
  | .int i, .int j => P (.val (.bl (neg ^^ decide (i = j))))
  | .str i, .str j => P (.val (.bl (neg ^^ decide (i = j))))
  | .bl i, .bl j => P (.val (.bl (neg ^^ decide (i = j))))
  | a, b => ∃ p q, a.py = some p ∧ b.py = some q ∧ SeqAt.shaped p = true ∧ SeqAt.shaped q = true ∧ P (.val (.bl (neg ^^ PyData.eqv p q)))
def wBin (o : BinO) (a b : R) (P : R → Prop) : Prop := match o, a.see, b.see with
  | .add, some (.int i), some (.int j) => P (.val (.int (i + j)))
  | .sub, some (.int i), some (.int j) => P (.val (.int (i - j)))
  | .mul, some (.int i), some (.int j) => CMul i j ∧ P (.val (.int (i * j)))
  | .fdiv, some (.int i), some (.int j) => CDivN i j ∧ P (.val (.int (i.fdiv j)))
  | .mod, some (.int i), some (.int j) => j ≠ 0 ∧ P (.val (.int (i.fmod j)))
  | .pow, some (.int i), some (.int j) => CPow i j ∧ P (.val (.int (i ^ j.toNat)))
  | .add, some (.str i), some (.str j) => i.length + j.length ≤ sizeLine ∧ P (.val (.str (i ++ j)))
  | .add, some (.lst xs), some (.lst ys) => xs.length + ys.length ≤ sizeLine ∧ P (.fresh (xs ++ ys))
  | .mul, some (.lst xs), some (.int k) => -(2 ^ 63) ≤ k ∧ k < 2 ^ 63 ∧ xs.length * k.toNat ≤ sizeLine ∧ P (.fresh (List.replicate k.toNat xs).flatten)
  | _, _, _ => False
def wCmp (o : CmO) (a b : R) (P : R → Prop) : Prop := match o, a.see, b.see with
  | .eq, some x, some y => wEq false x y P
  | .ne, some x, some y => wEq true x y P
  | .lt, some (.int i), some (.int j) => P (.val (.bl (decide (i < j))))
  | .le, some (.int i), some (.int j) => P (.val (.bl (decide (i ≤ j))))
  | .gt, some (.int i), some (.int j) => P (.val (.bl (decide (j < i))))
  | .ge, some (.int i), some (.int j) => P (.val (.bl (decide (j ≤ i))))
  | .is_, some x, some .non => P (.val (.bl x.isNon))
  | .isn, some x, some .non => P (.val (.bl (!x.isNon)))
  | .is_, some (.bl b), some (.bl c) => P (.val (.bl (b == c)))
  | .isn, some (.bl b), some (.bl c) => P (.val (.bl (!(b == c))))
  | _, _, _ => False
/-- len -/
def R.len : R → Option Int
  | .val (.lst xs) => some xs.length
  | .val (.tup xs) => some xs.length
  | .val (.frl xs) => some xs.length
  | .val (.str s) => if s.length ≤ sizeLine then some s.length else none
  | .val (.dct kvs) => none
  | .fresh xs => some xs.length
  | .brw _ xs => some xs.length
  | _ => none
/-- the items of a list or tuple -/
def R.sv : R → Option (List D)
  | .val (.tup xs) => some xs
  | .val (.frl xs) => some xs
  | r => r.lv
/-- built-in functions -/
def wBi (b : String) (as : List R) (P : R → Prop) : Prop :=
  if b = "len" then (match as with | [a] => (match a.len with | some n => P (.val (.int n)) | none => False) | _ => False)
  else if b = "abs" then (match as with | [.val (.int i)] => P (.val (.int (if i < 0 then -i else i))) | _ => False)
  else if b = "min" then (match as with
    | [.val (.int i), .val (.int j)] => P (.val (.int (if j < i then j else i)))
    | [a] => (match a.sv with | some xs => (match D.isInts xs with | some ns => 0 < ns.length ∧ ∀ m, m ∈ ns → (∀ y, y ∈ ns → m ≤ y) → P (.val (.int m)) | none => False) | none => False)
    | _ => False)
  else if b = "max" then (match as with
    | [.val (.int i), .val (.int j)] => P (.val (.int (if j > i then j else i)))
    | [a] => (match a.sv with | some xs => (match D.isInts xs with | some ns => 0 < ns.length ∧ ∀ m, m ∈ ns → (∀ y, y ∈ ns → y ≤ m) → P (.val (.int m)) | none => False) | none => False)
    | _ => False)
  else if b = "sum" then (match as with | [a] => (match a.sv with | some xs => (match D.isInts xs with | some ns => P (.val (.int ns.sum)) | none => False) | none => False) | _ => False)
  else if b = "all" then (match as with | [a] => (match a.lv with | some xs => (match D.isBls xs with | some ns => P (.val (.bl (ns.all id))) | none => False) | none => False) | _ => False)
  else if b = "any" then (match as with | [a] => (match a.lv with | some xs => (match D.isBls xs with | some ns => P (.val (.bl (ns.any id))) | none => False) | none => False) | _ => False)
  else False
/-- built-in types, called -/
def wTy (t : String) (as : List R) (P : R → Prop) : Prop :=
  if t = "int" then (match as with | [.val (.int i)] => P (.val (.int i)) | [.val (.bl b)] => P (.val (.int (if b then 1 else 0))) | _ => False)
  else if t = "tuple" then (match as with
    | [.val (.tup xs)] => P (.val (.tup xs))
    | [a] => (match a.lv with | some xs => P (.val (.tup xs)) | none => False)
    | _ => False)
  else if t = "list" then (match as with
    | [.val (.tup xs)] => P (.fresh xs)
    | [a] => (match a.lv with | some xs => P (.fresh xs) | none => False)
    | _ => False)
  else False
def D.tyOf : D → Ty
  | .non => .b "NoneType" | .bl _ => .b "bool" | .int _ => .b "int" | .str _ => .b "str" | .lst _ => .b "list" | .tup _ => .b "tuple" | .frl _ => .b "list" | .dct _ => .b "dict" | .obj c _ => .c c
def D.clsOk (cls : Str → Bool) : D → Bool
  | .obj c _ => cls c
  | _ => true
def isaAny (isa : Ty → Ty → Option Bool) (t : Ty) : List Ty → Option Bool
  | [] => some false
  | c :: r => match isa t c with
    | some true => some true
    | some false => isaAny isa t r
    | none => none
/-- a test of a value -/
def R.tru : R → Option Bool
  | .val .non => some false
  | .val (.bl b) => some b
  | .val (.int i) => some (i != 0)
  | .val (.str s) => if s.length ≤ sizeLine then some (s.length != 0) else none
  | .val (.lst xs) => some (!xs.isEmpty)
  | .val (.tup xs) => some (!xs.isEmpty)
  | .fresh xs => some (!xs.isEmpty)
  | .brw _ xs => some (!xs.isEmpty)
  | _ => none
/-- an item -/
def wIdx (a b : R) (P : R → Prop) : Prop := match a, b with
  | .val (.tup xs), .val (.int i) => (match atI xs i with | some d => P (.val d) | none => False)
  | .val (.str s), .val (.int i) => s.length ≤ sizeLine ∧ (match atI s.cps.toList i with | some c => P (.val (.str ⟨#[c]⟩)) | none => False)
  | a, .val (.int i) => (match a.lv with | some xs => (match atI xs i with | some d => P (.val d) | none => False) | none => False)
  | _, _ => False
def R.int? : R → Option Int
  | .val (.int i) => some i
  | _ => none
def cutD (xs : List D) (lo hi : Option Int) : List D := (xs.drop (HT.sIx xs.length 0 lo)).take (HT.sIx xs.length xs.length hi - HT.sIx xs.length 0 lo)
def wSlc (a : R) (lo hi : Option Int) (P : R → Prop) : Prop := match a with
  | .val (.str s) => s.length ≤ sizeLine ∧ P (.val (.str (cutS s lo hi)))
  | .val (.tup xs) => P (.val (.tup (cutD xs lo hi)))
  | a => (match a.lv with | some xs => P (.fresh (cutD xs lo hi)) | none => False)
/-- an argument as its kind wants it -/
def R.as : Kd → R → Option R
  | .v, r => match r.dat with | some d => some (.val d) | none => none
  | .b, r => match r.lv with | some xs => some (.brw false xs) | none => none
  | .bD, .freshD kvs => some (.brwD false kvs)
  | .bD, .brwD _ kvs => some (.brwD false kvs)
  | .bD, _ => none
  | .s, .stt => some .stt
  | .s, _ => none
  | .a, .brw _ xs => some (.brw false xs)
  | .a, r => match r.dat with | some d => some (.val d) | none => none
def asAll : List Kd → List R → Option (List R)
  | _, [] => some []
  | k :: ks, r :: rs => match r.as k, asAll ks rs with | some a, some l => some (a :: l) | _, _ => none
  | [], _ :: _ => none
/-- what a def may hand back -/
def R.out : R → Bool
  | .val _ | .fresh _ | .freshD _ | .stt => true
  | _ => false
def wCall (f : FS) (as : List R) (P : R → Prop) (X : XD → Prop) : Prop := match asAll f.ks as with | some l => f.sp l P X | none => False
/-- storing into a target -/
def wTg : Tg → D → List Sl → (List Sl → Prop) → Prop
  | .nm i, d, δ, k => k (δ.set i (.val d))
  | .t2 a b, d, δ, k => match d with
    | .tup [x, y] => wTg a x δ fun δ => wTg b y δ k
    | _ => False
  | .t3 a b c, d, δ, k => match d with
    | .tup [x, y, z] => wTg a x δ fun δ => wTg b y δ fun δ => wTg c z δ k
    | _ => False
/-- a walk: one turn behind another, a what is carried -/
def walkD {α : Type} (step : D → α → (α → Prop) → Prop) : List D → α → (α → Prop) → Prop
  | [], a, P => P a
  | x :: xs, a, P => step x a fun a' => walkD step xs a' P
/-- the same where a turn may end it -/
structure WD where
  nx : List Sl → Prop
  rt : R → Prop
  bk : List Sl → Prop := fun _ => False
  ct : List Sl → Prop := fun _ => False
def forD (turn : D → List Sl → WD → Prop) (D0 : WD) : List D → List Sl → Prop
  | [], δ => D0.nx δ
  | x :: xs, δ => turn x δ { nx := forD turn D0 xs, rt := D0.rt, bk := D0.nx, ct := forD turn D0 xs }
def wipeD (δ : List Sl) : List Nat → List Sl
  | [] => δ
  | i :: r => (wipeD δ r).set i .non
def readSl : Option Sl → Option R
  | some (.val d) => some (.val d)
  | some (.own xs) => some (.brw true xs)
  | some (.ownD kvs) => some (.brwD true kvs)
  | some (.bor xs) => some (.brw false xs)
  | some (.borD kvs) => some (.brwD false kvs)
  | some .stt => some .stt
  | _ => none
/-- the items that are walked of a value: o: of a name's own list -/
def itOf : R → Option (Bool × List D)
  | .val (.lst xs) => some (false, xs)
  | .val (.tup xs) => some (false, xs)
  | .val (.frl xs) => some (false, xs)
  | .val (.str s) => some (false, s.cps.toList.map fun c => .str ⟨#[c]⟩)
  | .fresh xs => some (false, xs)
  | .brw o xs => some (o, xs)
  | _ => none
def wRng : List R → (Bool → List D → Prop) → Prop
  | [.val (.int n)], P => (-(2 ^ 62) ≤ n ∧ n < 2 ^ 62) ∧ P false ((List.range n.toNat).map fun i => .int (i : Nat))
  | [.val (.int a), .val (.int b)], P => (-(2 ^ 62) ≤ a ∧ a < 2 ^ 62 ∧ -(2 ^ 62) ≤ b ∧ b < 2 ^ 62) ∧ P false ((List.range (b - a).toNat).map fun (i : Nat) => .int (a + i))
  | _, _ => False
def enumD (xs : List D) : List D := (List.range xs.length).zipWith (fun i x => .tup [.int (i : Nat), x]) xs
def zipD (xs ys : List D) : List D := xs.zipWith (fun x y => .tup [x, y]) ys

def CmO.op : CmO → CmpOp
  | .eq => .Eq | .ne => .NotEq | .lt => .Lt | .le => .LtE | .gt => .Gt | .ge => .GtE | .is_ => .Is | .isn => .IsNot | .in_ => .In | .nin => .NotIn
section
variable (C : Ct)
def costOp1 : Op1 → Nat
  | .inv c => C.cm c "__invert__"
def costOp2 : Op2 → Nat
  | .ocm o c => C.cm c (cmpInfo o.op).2.1
  | .one c => C.cm c "__eq__"
  | .obn o c => C.cm c (PySem.dunder o.info.2)
  | .ocv o c => C.cm c (cmpInfo o.op).2.1
def costOpN : OpN → Nat
  | .none_ => 0
def wOp1 : Op1 → R → (R → Prop) → (XD → Prop) → Prop
  | .inv c, .val (.obj c1 f1), P, X => c1 = c ∧ (match C.me c "__invert__" with
    | some fs => wCall fs [.val (.obj c1 f1)] (fun r => r.out = true ∧ P r) X
    | none => False)
  | _, _, _, _ => False
def wOp2 : Op2 → R → R → (R → Prop) → (XD → Prop) → Prop
  | .ocm o c, .val (.obj c1 f1), .val (.obj c2 f2), P, X => c1 = c ∧ c2 = c ∧ (match C.me c (cmpInfo o.op).2.1 with
    | some fs => wCall fs [.val (.obj c1 f1), .val (.obj c2 f2)] (fun r => r.out = true ∧ P r) X
    | none => False)
  | .one c, .val (.obj c1 f1), .val (.obj c2 f2), P, X => c1 = c ∧ c2 = c ∧ C.own c = true ∧ (match C.me c "__eq__" with
    | some fs => wCall fs [.val (.obj c1 f1), .val (.obj c2 f2)] (fun r => match r with | .val (.bl b) => P (.val (.bl (!b))) | _ => False) X
    | none => False)
  | .obn o c, .val (.obj c1 f1), .val (.obj c2 f2), P, X => c1 = c ∧ c2 = c ∧ C.own c = true ∧ (match C.me c (PySem.dunder o.info.2) with
    | some fs => wCall fs [.val (.obj c1 f1), .val (.obj c2 f2)] (fun r => r.out = true ∧ P r) X
    | none => False)
  | .ocv o c, .val (.obj c1 f1), .val (.tup xs), P, X => c1 = c ∧ (match C.me c (cmpInfo o.op).2.1 with
    | some fs => wCall fs [.val (.obj c1 f1), .val (.tup xs)] (fun r => r.out = true ∧ P r) X
    | none => False)
  | _, _, _, _, _ => False
def wOpN : OpN → List R → (R → Prop) → (XD → Prop) → Prop
  | _, _, _, _ => False
/-- how many draws at most -/
def costE : E → Nat
  | .bin _ a b | .cmp _ a b | .and_ a b | .or_ a b | .cons a b | .idx a b | .itZip a b | .itZipN a b => costE a + costE b
  | .chn _ _ a b c | .ite a b c | .slc a b c => costE a + costE b + costE c
  | .neg a | .not_ a | .tup a | .lst a | .attr a _ | .prp _ _ a | .bi _ a | .ty _ a | .isi a _ | .rpr a | .tr a | .itV a | .itRng a | .itEnum a | .itRev a => costE a
  | .call f es | .callG f es => costE es + C.cf f
  | .mk c es => costE es + C.cf c
  | .mkK c ks es => costE es + C.ck c ks
  | .mkV c v es => costE es + C.cv c v
  | .meth c m o es => costE o + costE es + C.cm c m
  | .comp elt _ it cond _ m => costE it + m * (costE cond + costE elt)
  | .op1 o a => costE a + costOp1 C o
  | .op2 o a b => costE a + costE b + costOp2 C o
  | .opn o es => costE es + costOpN o
  | .var _ | .cst _ | .glc _ | .nil | .sgc _ => 0
mutual
def wE : E → List Sl → (R → Prop) → (XD → Prop) → Prop
  | .var i, δ, P, _ => match readSl δ[i]? with | some r => P r | none => False
  | .cst c, _, P, _ => P (.val c.d)
  | .sgc i, δ, P, _ => match δ[i]? with | some .stt => ∀ cs : List Int, P (.val (.lst (cs.map D.int))) | _ => False
  | .glc x, _, P, _ => match C.gc x with | some c => P (.val c.d) | none => False
  | .bin o a b, δ, P, X => wE a δ (fun ra => wE b δ (fun rb => wBin o ra rb P) X) X
  | .neg a, δ, P, X => wE a δ (fun ra => match ra with | .val (.int i) => P (.val (.int (-i))) | _ => False) X
  | .cmp o a b, δ, P, X => wE a δ (fun ra => wE b δ (fun rb => wCmp o ra rb P) X) X
  | .chn o p a b c, δ, P, X => wE a δ (fun ra => wE b δ (fun rb => wCmp o ra rb fun r => match r with
      | .val (.bl true) => wE c δ (fun rc => wCmp p rb rc P) X
      | .val (.bl false) => P (.val (.bl false))
      | _ => False) X) X
  | .and_ a b, δ, P, X => wE a δ (fun r => match r with
      | .val (.bl true) => wE b δ P X
      | .val (.bl false) => P (.val (.bl false))
      | _ => False) X
  | .or_ a b, δ, P, X => wE a δ (fun r => match r with
      | .val (.bl true) => P (.val (.bl true))
      | .val (.bl false) => wE b δ P X
      | _ => False) X
  | .not_ a, δ, P, X => wE a δ (fun r => match r with
      | .val (.bl b) => P (.val (.bl (!b)))
      | _ => False) X
  | .ite c a b, δ, P, X => wT c δ (fun t => match t with | true => wE a δ P X | false => wE b δ P X) X
  | .tup es, δ, P, X => wEs es δ (fun rs => match asAll (rs.map fun _ => .v) rs with
      | some l => l.length ≤ sizeLine ∧ P (.val (.tup (l.filterMap R.dat)))
      | none => False) X
  | .lst es, δ, P, X => wEs es δ (fun rs => match asAll (rs.map fun _ => .v) rs with
      | some l => l.length ≤ sizeLine ∧ P (.fresh (l.filterMap R.dat))
      | none => False) X
  | .idx a b, δ, P, X => wE a δ (fun ra => wE b δ (fun rb => wIdx ra rb P) X) X
  | .slc a lo hi, δ, P, X => wE a δ (fun ra => wO lo δ (fun l => wO hi δ (fun h => wSlc ra l h P) X) X) X
  | .call f es, δ, P, X => match C.fn f with
      | some fs => wEs es δ (fun rs => wCall fs rs (fun r => r.out = true ∧ P r) X) X
      | none => False
  | .callG f es, δ, P, X => match C.fnG f with
      | some fs => wEs es δ (fun rs => wCall fs rs (fun r => r.out = true ∧ P r) X) X
      | none => False
  | .mk c es, δ, P, X => match C.ini c with
      | some fs => wEs es δ (fun rs => wCall fs rs (fun r => match r with | .val (.obj c' fs) => c' = c ∧ P r | _ => False) X) X
      | none => False
  | .mkV c v es, δ, P, X => match C.iniV c v with
      | some fs => wEs es δ (fun rs => wCall fs rs (fun r => match r with | .val (.obj c' fs) => c' = c ∧ P r | _ => False) X) X
      | none => False
  | .mkK c ks es, δ, P, X => match C.inK c ks with
      | some (pm, fs) => wEs es δ (fun rs => wCall fs (permL pm rs) (fun r => match r with | .val (.obj c' fs) => c' = c ∧ P r | _ => False) X) X
      | none => False
  | .meth c m o es, δ, P, X => match C.me c m with
      | some f => wE o δ (fun ro => match ro with
        | .val (.obj c' fs) => c' = c ∧ fs.lookup m = none ∧ wEs es δ (fun rs => wCall f (ro :: rs) (fun r => r.out = true ∧ P r) X) X
        | _ => False) X
      | none => False
  | .attr o f, δ, P, X => wE o δ (fun ro => match ro with
      | .val (.obj c fs) => C.fld c f = true ∧ (match fs.lookup f with | some d => P (.val d) | none => False)
      | _ => False) X
  | .prp c f o, δ, P, X => match C.pr c f with
      | some q => wE o δ (fun ro => match ro with
        | .val (.obj c' fs) => c' = c ∧ wCall q [ro] (fun r => r.out = true ∧ P r) (fun _ => False)
        | _ => False) X
      | none => False
  | .bi b es, δ, P, X => wEs es δ (fun rs => wBi b rs P) X
  | .ty t es, δ, P, X => wEs es δ (fun rs => wTy t rs P) X
  | .isi a ts, δ, P, X => (ts.all fun t => match t with | .c y => C.cls y | .b _ => true) = true ∧ wE a δ (fun r => match r.see with
      | some d => d.clsOk C.cls = true ∧ (match isaAny C.isa d.tyOf ts with | some b => P (.val (.bl b)) | none => False)
      | none => False) X
  | .op1 o a, δ, P, X => wE a δ (fun ra => wOp1 C o ra P X) X
  | .op2 o a b, δ, P, X => wE a δ (fun ra => wE b δ (fun rb => wOp2 C o ra rb P X) X) X
  | .opn o es, δ, P, X => wEs es δ (fun rs => wOpN o rs P X) X
  | .rpr a, δ, P, X => wE a δ (fun r => match r.see with
      | some d => (match d.py with | some p => okP p = true ∧ P (.val (.str p.shown)) | none => False)
      | none => False) X
  | .comp elt t it cond own m, δ, P, X => wIt it δ (fun _ xs => xs.length < sizeLine ∧ (0 < costE C cond + costE C elt → xs.length ≤ m) ∧ walkD (fun x acc k => wTg t x (wipeD δ (own.map (·.2))) fun δ' =>
      wC cond δ' (fun b => match b with
        | true => wE elt δ' (fun r => match r.dat with | some d => k (acc ++ [d]) | none => False) (fun _ => False)
        | false => k acc) (fun _ => False)) xs [] fun acc => P (.fresh acc)) X
  | _, _, _, _ => False
/-- a row of them -/
def wEs : E → List Sl → (List R → Prop) → (XD → Prop) → Prop
  | .nil, _, P, _ => P []
  | .cons a es, δ, P, X => wE a δ (fun r => wEs es δ (fun rs => P (r :: rs)) X) X
  | _, _, _, _ => False
/-- as a test -/
def wT : E → List Sl → (Bool → Prop) → (XD → Prop) → Prop
  | .and_ a b, δ, P, X => wT a δ (fun c => match c with | true => wT b δ P X | false => P false) X
  | .or_ a b, δ, P, X => wT a δ (fun c => match c with | true => P true | false => wT b δ P X) X
  | .not_ a, δ, P, X => wT a δ (fun c => P (!c)) X
  | .cmp o a b, δ, P, X => wE a δ (fun ra => wE b δ (fun rb => wCmp o ra rb fun r => match r with | .val (.bl c) => P c | _ => False) X) X
  | .chn o p a b c, δ, P, X => wE a δ (fun ra => wE b δ (fun rb => wCmp o ra rb fun r => match r with
      | .val (.bl true) => wE c δ (fun rc => wCmp p rb rc fun r => match r with | .val (.bl c) => P c | _ => False) X
      | .val (.bl false) => P false
      | _ => False) X) X
  | .tr a, δ, P, X => wE a δ (fun r => match r.tru with | some b => P b | none => False) X
  | .op2 o a b, δ, P, X => wE a δ (fun ra => wE b δ (fun rb => wOp2 C o ra rb (fun r => match r with | .val (.bl c) => P c | _ => False) X) X) X
  | _, _, _, _ => False
/-- a test that may lack -/
def wC : E → List Sl → (Bool → Prop) → (XD → Prop) → Prop
  | .nil, _, P, _ => P true
  | .cons c .nil, δ, P, X => wT c δ P X
  | _, _, _, _ => False
/-- a bound that may lack -/
def wO : E → List Sl → (Option Int → Prop) → (XD → Prop) → Prop
  | .nil, _, P, _ => P none
  | .cons e .nil, δ, P, X => wE e δ (fun r => match r.int? with | some i => P (some i) | none => False) X
  | _, _, _, _ => False
/-- what is walked -/
def wIt : E → List Sl → (Bool → List D → Prop) → (XD → Prop) → Prop
  | .itV a, δ, P, X => wE a δ (fun r => match itOf r with | some (o, xs) => P o xs | none => False) X
  | .itRng es, δ, P, X => wEs es δ (fun rs => wRng rs P) X
  | .itEnum a, δ, P, X => wE a δ (fun r => match r with
      | .val (.tup xs) => P false (enumD xs)
      | .brw o xs => P o (enumD xs)
      | r => (match r.lv with | some xs => P false (enumD xs) | none => False)) X
  | .itZip a b, δ, P, X => wE a δ (fun ra => wE b δ (fun rb => match ra, rb with
      | .val (.lst xs), .val (.lst ys) => P false (zipD xs ys)
      | .val (.tup xs), .val (.tup ys) => P false (zipD xs ys)
      | _, _ => False) X) X
  | .itZipN a b, δ, P, X => wE a δ (fun ra => wE b δ (fun rb => match ra, rb with
      | .val (.lst xs), .val (.lst ys) => P false (zipD xs ys)
      | _, _ => False) X) X
  | .itRev a, δ, P, X => wE a δ (fun r => match r with
      | .brw o xs => P o xs.reverse
      | r => (match r.lv with | some xs => P false xs.reverse | none => False)) X
  | _, _, _, _ => False
end
end
/-! ### the check of a text against the short language -/
structure Sc where
  sc : Scope
  N : List Str
  fo : Str → Bool
  gd : Bool := false
def visB (sc : Scope) (x : Str) : Bool := match sc.names.lookup x with
  | some .local => true
  | some .cell => true
  | some .free => true
  | _ => false
def locB (sc : Scope) (x : Str) : Bool := match sc.names.lookup x with
  | some .local => true
  | some .cell => true
  | _ => false
def glB (sc : Scope) (x : Str) : Bool := match sc.names.lookup x with
  | some .globalImplicit => true
  | _ => false
def noDbg (x : Str) : Bool := !(x == ("__debug__" : Str))
def nonStar : Expr → Bool
  | .Starred _ _ => false
  | _ => true
def nonSlice : Expr → Bool
  | .Slice _ _ _ _ => false
  | _ => true
def nonSet : Expr → Bool
  | .Set _ _ _ => false
  | _ => true
def noCall0 : Expr → Bool
  | .Call (.Name _ _) [] [] _ => false
  | _ => true
def plainTest : Expr → Bool
  | .UnaryOp .Not _ _ => false
  | .BoolOp _ _ _ => false
  | .IfExp _ _ _ _ => false
  | .Compare _ _ _ _ => false
  | _ => true
def plainVal : Expr → Bool
  | .ListComp _ _ _ _ => false
  | .SetComp _ _ _ _ => false
  | .DictComp _ _ _ _ _ => false
  | _ => true
def BinO.op : BinO → Operator
  | .add => .Add | .sub => .Sub | .mul => .Mult | .fdiv => .FloorDiv | .mod => .Mod | .pow => .Pow
def isBi (x : Str) (b : String) : Bool := match bootBuiltins x with
  | some (.builtin id) => id == b
  | _ => false
def isTyN (x : Str) (b : String) : Bool := match bootBuiltins x with
  | some (.type id) => id == b
  | _ => false
def chkTy (Γ : Sc) (free : Str → Bool) : Ty → Expr → Bool
  | .b n, .Name x _ => glB Γ.sc x && noDbg x && free x && isTyN x n && x != "__name__"
  | .c y, .Name x _ => glB Γ.sc x && noDbg x && x == y
  | _, _ => false
def chkTys (Γ : Sc) (free : Str → Bool) : List Ty → List Expr → Bool
  | [], [] => true
  | t :: ts, e :: es => nonStar e && chkTy Γ free t e && chkTys Γ free ts es
  | _, _ => false
def chkTg (Γ : Sc) : Tg → Expr → Bool
  | .nm i, .Name x _ => Γ.N[i]? == some x && locB Γ.sc x && (Γ.fo x || Γ.sc.names.lookup x == some .local)
  | .t2 a b, .Tuple [x, y] _ _ => nonStar x && nonStar y && chkTg Γ a x && chkTg Γ b y
  | .t3 a b c, .Tuple [x, y, z] _ _ => nonStar x && nonStar y && nonStar z && chkTg Γ a x && chkTg Γ b y && chkTg Γ c z
  | _, _ => false
def Tg.slots : Tg → List Nat
  | .nm i => [i]
  | .t2 a b => a.slots ++ b.slots
  | .t3 a b c => a.slots ++ b.slots ++ c.slots
def callN : Expr → Option (Str × List Expr)
  | .Call (.Name x _) xs [] _ => some (x, xs)
  | _ => none
def isTupE : Expr → Bool
  | .Tuple _ _ _ => true
  | _ => false
def Op2.cmp : Op2 → Option CmpOp
  | .ocm .eq _ => some .Eq | .ocm .lt _ => some .Lt | .ocm .le _ => some .LtE | .ocm .gt _ => some .Gt | .ocm .ge _ => some .GtE
  | .ocv .eq _ => some .Eq
  | .one _ => some .NotEq
  | _ => none
def cmpSub (op : CmpOp) : Expr → Option (Expr × Expr)
  | .Compare x [op'] [y] _ => if decide (op' = op) && !(behindInMarks op y) then some (x, y) else none
  | _ => none
section
variable (free : Str → Bool)
/-- the parts of a text -/
def sub1 (Γ : Sc) : Op1 → Expr → Option Expr
  | .inv _, .UnaryOp .Invert x _ => some x
  | _, _ => none
def sub2 (Γ : Sc) (o : Op2) (e : Expr) : Option (Expr × Expr) := match o.cmp with
  | some op => cmpSub op e
  | none => match o, e with
    | .obn q _, .BinOp x op y _ => if decide (op = q) then some (x, y) else none
    | _, _ => none
def subN (Γ : Sc) : OpN → Expr → Option (List Expr)
  | _, _ => none
mutual
def chkE (Γ : Sc) : E → Expr → Bool
  | .var i, .Name x _ => Γ.N[i]? == some x && visB Γ.sc x && noDbg x && !(x == ("__classdict__" : Str))
  | .sgc i, .Subscript (.Name x _) (.Constant (.str k) _ _) _ => Γ.N[i]? == some x && visB Γ.sc x && noDbg x && !(x == ("__classdict__" : Str)) && k == "cells"
  | .cst .non, .Constant .none _ _ => true
  | .cst (.bl b), .Constant (.bool c) _ _ => b == c
  | .cst (.int b), .Constant (.int c) _ _ => b == c
  | .cst (.str b), .Constant (.str c) _ _ => b == c
  | .glc y, .Name x _ => glB Γ.sc x && noDbg x && x == y
  | .bin o a b, .BinOp x op y _ => decide (op = o.op) && chkE Γ a x && chkE Γ b y
  | .neg a, .UnaryOp .USub x _ => chkE Γ a x
  | .cmp o a b, .Compare x [op] [y] _ => decide (op = o.op) && !(behindInMarks op y) && chkE Γ a x && chkE Γ b y
  | .chn o p a b c, .Compare x [op, op'] [y, z] _ => decide (op = o.op) && decide (op' = p.op) && !(behindInMarks op' z) && chkE Γ a x && chkE Γ b y && chkE Γ c z
  | .and_ a b, .BoolOp .And (x :: y :: rest) p => chkE Γ a x && (match rest with | [] => chkE Γ b y | _ => chkE Γ b (.BoolOp .And (y :: rest) p))
  | .or_ a b, .BoolOp .Or (x :: y :: rest) p => chkE Γ a x && (match rest with | [] => chkE Γ b y | _ => chkE Γ b (.BoolOp .Or (y :: rest) p))
  | .not_ a, .UnaryOp .Not x _ => chkE Γ a x
  | .ite c a b, .IfExp x y z _ => chkT Γ c x && chkE Γ a y && chkE Γ b z
  | .tup es, .Tuple xs _ _ => chkEs Γ es xs
  | .lst es, .List xs _ => chkEs Γ es xs
  | .idx a b, .Subscript x y _ => nonSlice y && chkE Γ a x && chkE Γ b y
  | .slc a lo hi, .Subscript x (.Slice l h none _) _ => chkE Γ a x && chkO Γ lo l && chkO Γ hi h
  | .call f es, .Call (.Name x _) xs [] _ => glB Γ.sc x && noDbg x && x == f && chkEs Γ es xs
  | .callG f es, .Call (.Name x _) xs [] _ => Γ.gd && (glB Γ.sc x && noDbg x && x == f && chkEs Γ es xs)
  | .mk c es, .Call (.Name x _) xs [] _ => glB Γ.sc x && noDbg x && x == c && chkEs Γ es xs
  | .mkV c _ es, .Call (.Name x _) xs [] _ => glB Γ.sc x && noDbg x && x == c && chkEs Γ es xs
  | .mkK c ks es, .Call (.Name x _) [] kws _ => glB Γ.sc x && noDbg x && x == c && decide (kws.map (·.arg) = ks.map some) && chkEs Γ es (kws.map (·.value))
  | .meth _ m o es, .Call (.Attribute x y ap) xs [] p => noCall0 x && y == m && ap.endLine == p.line && decide (xs.length < 30) && chkE Γ o x && chkEs Γ es xs
  | .attr o f, .Attribute x y _ => noCall0 x && y == f && chkE Γ o x
  | .prp _ f o, .Attribute x y _ => noCall0 x && y == f && chkE Γ o x
  | .bi b (.cons a es), .Call (.Name x _) (e :: xs) [] _ => glB Γ.sc x && noDbg x && free x && isBi x b && x != "__name__" && nonStar e && chkE Γ a e && chkEs Γ es xs
  | .ty b (.cons a es), .Call (.Name x _) (e :: xs) [] _ => glB Γ.sc x && noDbg x && free x && isTyN x b && x != "__name__" && nonStar e && chkE Γ a e && chkEs Γ es xs
  | .isi a [t], .Call (.Name x _) [e, .Name y q] [] _ => glB Γ.sc x && noDbg x && free x && isBi x "isinstance" && x != "__name__" && nonStar e && chkE Γ a e && chkTy Γ free t (.Name y q)
  | .isi a (t :: ts), .Call (.Name x _) [e, .Tuple es _ _] [] _ => decide (ts.length < 30) && (glB Γ.sc x && noDbg x && free x && isBi x "isinstance" && x != "__name__" && nonStar e && chkE Γ a e && chkTys Γ free (t :: ts) es)
  | .op1 o a, e => match sub1 Γ o e with
    | some x => chkE Γ a x
    | none => false
  | .op2 o a b, e => match sub2 Γ o e with
    | some (x, y) => chkE Γ a x && chkE Γ b y
    | none => false
  | .opn o es, e => match subN Γ o e with
    | some xs => chkEs Γ es xs
    | none => false
  | .rpr a, c => match callN c with
    | some (x, [e]) => Γ.gd && glB Γ.sc x && noDbg x && free x && x == "repr" && nonStar e && chkE Γ a e
    | _ => false
  | .comp elt t it cond own _, .ListComp e [⟨tg, iter, ifs, n⟩] scope _ =>
      n == 0 && (nonSet iter && blkC Γ.N Γ.sc scope own && t.slots.all (fun i => (own.map (·.2)).contains i) && chkTg ⟨relS scope Γ.sc, Γ.N, fun x => scope.names.lookup x == some .cell, Γ.gd⟩ t tg && chkIt Γ it tg iter &&
      chkC ⟨relS scope Γ.sc, Γ.N, fun x => scope.names.lookup x == some .cell, Γ.gd⟩ cond ifs && chkE ⟨relS scope Γ.sc, Γ.N, fun x => scope.names.lookup x == some .cell, Γ.gd⟩ elt e)
  | _, _ => false
def chkEs (Γ : Sc) : E → List Expr → Bool
  | .nil, [] => true
  | .cons a es, x :: xs => nonStar x && chkE Γ a x && chkEs Γ es xs
  | _, _ => false
def chkT (Γ : Sc) : E → Expr → Bool
  | .and_ a b, .BoolOp .And (x :: y :: rest) p => chkT Γ a x && (match rest with | [] => chkT Γ b y | _ => chkT Γ b (.BoolOp .And (y :: rest) p))
  | .or_ a b, .BoolOp .Or (x :: y :: rest) p => chkT Γ a x && (match rest with | [] => chkT Γ b y | _ => chkT Γ b (.BoolOp .Or (y :: rest) p))
  | .not_ a, .UnaryOp .Not x _ => chkT Γ a x
  | .cmp o a b, .Compare x [op] [y] _ => decide (op = o.op) && !(behindInMarks op y) && chkE Γ a x && chkE Γ b y
  | .chn o p a b c, .Compare x [op, op'] [y, z] _ => decide (op = o.op) && decide (op' = p.op) && !(behindInMarks op' z) && chkE Γ a x && chkE Γ b y && chkE Γ c z
  | .tr a, e => plainTest e && chkE Γ a e
  | .op2 o a b, e => match o.cmp with
    | some op => (match cmpSub op e with
      | some (x, y) => chkE Γ a x && chkE Γ b y
      | none => false)
    | none => false
  | _, _ => false
def chkC (Γ : Sc) : E → List Expr → Bool
  | .nil, [] => true
  | .cons c .nil, [e] => chkT Γ c e
  | _, _ => false
def chkO (Γ : Sc) : E → Option Expr → Bool
  | .nil, none => true
  | .cons c .nil, some e => chkE Γ c e
  | _, _ => false
def chkIt (Γ : Sc) : E → Expr → Expr → Bool
  | .itV a, _, e => chkE Γ a e
  | .itRng es, _, .Call (.Name x _) xs [] _ => glB Γ.sc x && noDbg x && free x && x == "range" && (xs.length == 1 || xs.length == 2) && chkEs Γ es xs
  | .itEnum a, tg, c => match callN c with
    | some (x, [e]) => isTupE tg && glB Γ.sc x && noDbg x && free x && x == "enumerate" && nonStar e && chkE Γ a e
    | _ => false
  | .itZip a b, tg, c => match callN c with
    | some (x, [e, e']) => isTupE tg && glB Γ.sc x && noDbg x && free x && x == "zip" && nonStar e && nonStar e' && chkE Γ a e && chkE Γ b e'
    | _ => false
  | .itZipN a b, .Name _ _, c => match callN c with
    | some (x, [e, e']) => glB Γ.sc x && noDbg x && free x && x == "zip" && nonStar e && nonStar e' && chkE Γ a e && chkE Γ b e'
    | _ => false
  | .itRev a, _, c => match callN c with
    | some (x, [e]) => glB Γ.sc x && noDbg x && free x && x == "reversed" && nonStar e && chkE Γ a e
    | _ => false
  | _, _, _ => false
end
end
end Dl

set_option Elab.async false
set_option linter.all false
set_option maxRecDepth 100000
set_option maxHeartbeats 4000000
/-! Dl: what an operation, a call of a built-in, a test, an item is over data. -/
namespace Dl
open PySem PySem.Spec PyProof.Rows L2

/-- the static side of a context -/
structure CxOk (g : Gb) (k : Nat) (X : Cx) : Prop where
  prog : X.prog = g.P
  w : X.w = g.w
  K : X.K = g.K
  mg : X.mg = g.mg
  base : X.base = g.base
  nd : X.N.Nodup
  calm : X.calm = true
  room : Room k X.A

/-- the wanted end of an expression that began at S, H -/
def Post (g : Gb) (st : Option StA) (H0 S H : Hp) (P : R → Prop) : VK := fun v H' => ∃ S' r, Step st S H S' H' ∧ RepR g st H0 S' H H' r v ∧ P r
section
variable {g : Gb} {st : Option StA} {H0 S H S1 H1 S2 H2 H' : Hp} {P P' : R → Prop} {v x y : V} {r ra rb : R} {X : Cx} {k : Nat}
theorem Post.up (o : Ok st S H) (s : Step st S H S1 H1) (h : Post g st H0 S1 H1 P v H') : Post g st H0 S H P v H' := by
  obtain ⟨S', r, s', h1, h2⟩ := h
  exact ⟨S', r, s.trans s', h1.since fun l e => Step.back o s e, h2⟩
theorem Post.mono (h : Post g st H0 S H P v H') (f : ∀ r, P r → P' r) : Post g st H0 S H P' v H' := by
  obtain ⟨S', r, s', h1, h2⟩ := h
  exact ⟨S', r, s', h1, f r h2⟩
theorem Post.pure (o : Ok st S H) (h : RepR g st H0 S H H r v) (p : P r) : Post g st H0 S H P v H := ⟨S, r, Step.refl o, h, p⟩
theorem Post.val {d : D} (o : Ok st S H) (h : Rep g S d v) (p : P (.val d)) : Post g st H0 S H P v H := Post.pure o (r := .val d) h p
/-- a new list -/
theorem Post.list {xs : List D} {vs : List V} {p : Addr} (o : Ok st S H) (hp : H p = none) (h : Reps g S xs vs) (q : P (.fresh xs)) : Post g st H0 S H P (.ref p) (upd H p (.lst vs)) := by
  refine ⟨S, .fresh xs, Step.newOut o hp, ⟨p, vs, rfl, upd_same, o.sub.none hp, hp, fun z => ?_, h⟩, q⟩
  obtain ⟨u, e⟩ := o.st_some z
  rw [hp] at e
  cases e
/-- a new tuple -/
theorem Post.tup {xs : List D} {vs : List V} {p : Addr} (o : Ok st S H) (hp : H p = none) (h : Reps g S xs vs) (q : P (.val (.tup xs))) : Post g st H0 S H P (.ref p) (upd H p (.tup vs)) := by
  refine ⟨_, .val (.tup xs), Step.new o hp, ?_, q⟩
  simp only [RepR, Rep]
  exact ⟨p, vs, rfl, SqT.of upd_same, Reps.mono (Ex.new (o.sub.none hp)) xs vs h⟩
theorem RepR.see {d : D} (h : RepR g st H0 S H1 H r v) (o : Ok st S H) (e : r.see = some d) : Rep g H d v := by
  cases r with
  | val d' => cases e; exact Rep.mono o.sub d v h
  | fresh xs =>
    cases e
    obtain ⟨l, vs, h1, h2, _, _, _, h3⟩ := h
    simp only [Rep]
    exact ⟨l, vs, h1, h2, Reps.mono o.sub xs vs h3⟩
  | brw b xs =>
    cases e
    obtain ⟨l, vs, h1, h2, _, _, h3⟩ := h
    simp only [Rep]
    exact ⟨l, vs, h1, h2, Reps.mono o.sub xs vs h3⟩
  | freshD xs =>
    cases e
    obtain ⟨l, vs, h1, h2, _, _, _, h3⟩ := h
    simp only [Rep]
    exact ⟨l, vs, h1, .inl h2, RepK.mono o.sub xs vs h3⟩
  | brwD b xs =>
    cases e
    obtain ⟨l, vs, h1, h2, _, _, h3⟩ := h
    simp only [Rep]
    exact ⟨l, vs, h1, .inl h2, RepK.mono o.sub xs vs h3⟩
  | stt => cases e
theorem RepR.int {i : Int} (h : RepR g st H0 S H1 H r v) (e : r.see = some (.int i)) : v = .int i := by
  cases r <;> simp [R.see] at e
  subst e
  simpa only [RepR, Rep] using h
theorem RepR.str {i : Str} (h : RepR g st H0 S H1 H r v) (e : r.see = some (.str i)) : v = .str i := by
  cases r <;> simp [R.see] at e
  subst e
  simpa only [RepR, Rep] using h
theorem RepR.lst {xs : List D} (h : RepR g st H0 S H1 H r v) (o : Ok st S H) (e : r.see = some (.lst xs)) : ∃ l vs, v = .ref l ∧ H l = some (.lst vs) ∧ Reps g S xs vs := by
  have e2 : r.lv = some xs := by
    cases r <;> simp [R.see] at e
    · subst e; rfl
    · subst e; rfl
    · subst e; rfl
  exact h.lv o e2
mutual
theorem Rep.dp : ∀ {d : D} {p : PyData} {v : V}, d.py = some p → Rep g H d v → Dp g.K H v p
  | .non, p, v, e, h => by simp [D.py] at e; subst e; simp only [Rep] at h; subst h; exact .non
  | .bl b, p, v, e, h => by simp [D.py] at e; subst e; simp only [Rep] at h; subst h; exact .bl b
  | .int b, p, v, e, h => by simp [D.py] at e; subst e; simp only [Rep] at h; subst h; exact .int b
  | .str b, p, v, e, h => by simp [D.py] at e; subst e; simp only [Rep] at h; subst h; exact .str b
  | .lst xs, p, v, e, h => by
    simp only [Rep] at h
    obtain ⟨a, vs, rfl, h2, h3⟩ := h
    simp only [D.py] at e
    cases q : D.pys xs with
    | none => rw [q] at e; cases e
    | some l =>
      rw [q] at e
      cases e
      exact .lst (SqL.of h2) (Reps.dp q h3)
  | .tup xs, p, v, e, h => by
    simp only [Rep] at h
    obtain ⟨a, vs, rfl, h2, h3⟩ := h
    simp only [D.py] at e
    cases q : D.pys xs with
    | none => rw [q] at e; cases e
    | some l =>
      rw [q] at e
      cases e
      exact .tup h2 (Reps.dp q h3)
  | .frl xs, p, v, e, h => by
    simp only [Rep] at h
    obtain ⟨a, vs, rfl, h2, h3⟩ := h
    simp only [D.py] at e
    cases q : D.pys xs with
    | none => rw [q] at e; cases e
    | some l =>
      rw [q] at e
      cases e
      exact .lst h2 (Reps.dp q h3)
  | .dct _, _, _, e, _ => by simp [D.py] at e
  | .obj _ _, _, _, e, _ => by simp [D.py] at e
theorem Reps.dp : ∀ {ds : List D} {ps : List PyData} {vs : List V}, D.pys ds = some ps → Reps g H ds vs → DpAll g.K H vs ps
  | [], ps, vs, e, h => by simp [D.pys] at e; subst e; simp only [Reps] at h; subst h; exact .nil
  | d :: ds, ps, vs, e, h => by
    simp only [Reps] at h
    obtain ⟨v, r, rfl, h2, h3⟩ := h
    simp only [D.pys] at e
    cases q : D.py d with
    | none => rw [q] at e; cases e
    | some p =>
      cases q2 : D.pys ds with
      | none => rw [q, q2] at e; cases e
      | some l =>
        rw [q, q2] at e
        cases e
        exact .cons (Rep.dp q h2) (Reps.dp q2 h3)
end

/-! ### operations -/
def opW (X : Cx) (f : Value → Value → Sem Value) : R2 := fun x y H Q => ∀ (pins : List (Addr × Obj)) (s : Shared) (σ : L2.St) (v u : Value), Inv X pins σ H s → RelV x v → RelV y u → wpAny (model X.prog X.w) X.A (f v u) (EP X pins σ Q) X.xe s
theorem opW_ok {f : Value → Value → Sem Value} : OpR X f (opW X f) := fun pins s σ H x y v u Q I rx ry h => h pins s σ v u I rx ry
theorem opw {f : Value → Value → Sem Value} {r : R2} {Q : VK} (h : OpR X f r) (q : r x y H Q) : opW X f x y H Q := fun pins s σ v u I rx ry => h pins s σ H x y v u Q I rx ry q
def callW (X : Cx) (f : Value) : List V → Hp → VK → Prop := fun xs H Q => ∀ (pins : List (Addr × Obj)) (s : Shared) (σ : L2.St) (us : List Value), Inv X pins σ H s → Vals xs us → wpAny (model X.prog X.w) X.A (call f us) (EP X pins σ Q) X.xe s
theorem callW_ok {f : Value} : CallR X f (callW X f) := fun pins s σ H xs us Q I r h => h pins s σ us I r
theorem callw {f : Value} {r : List V → Hp → VK → Prop} {Q : VK} {xs : List V} (h : CallR X f r) (q : r xs H Q) : callW X f xs H Q := fun pins s σ us I r => h pins s σ H xs us Q I r q
def ixW (X : Cx) : R2 := fun x y H Q => ∀ (value slice : Expr) (pins : List (Addr × Obj)) (s : Shared) (σ : L2.St) (v u : Value), Inv X pins σ H s → RelV x v → RelV y u → subscripted slice false v u = operate [v, u] (getItem v u) →
  wpAny (model X.prog X.w) X.A (subscriptTail value slice v u) (EP X pins σ Q) X.xe s
theorem ixW_ok : IxR X (ixW X) := fun value slice pins s σ H x y v u Q I rx ry h hs => h value slice pins s σ v u I rx ry hs
theorem ixw {r : R2} {Q : VK} (h : IxR X r) (q : r x y H Q) : ixW X x y H Q := fun value slice pins s σ v u I rx ry hs => h value slice pins s σ H x y v u Q I rx ry q hs

theorem bin_ok {o : BinO} (hk : Ok st S H) (ha : RepR g st H0 S H1 H ra x) (hb : RepR g st H0 S H2 H rb y) (h : wBin o ra rb P) : opW X (binaryOp o.op) x y H (Post g st H0 S H P) := by
  unfold wBin at h
  split at h
  · rename_i i j e1 e2; cases ha.int e1; cases hb.int e2
    exact opw op_add ⟨i, j, rfl, rfl, Post.val hk (by simp only [Rep]) h⟩
  · rename_i i j e1 e2; cases ha.int e1; cases hb.int e2
    exact opw op_sub ⟨i, j, rfl, rfl, Post.val hk (by simp only [Rep]) h⟩
  · rename_i i j e1 e2; cases ha.int e1; cases hb.int e2
    exact opw op_mul ⟨i, j, rfl, rfl, h.1, Post.val hk (by simp only [Rep]) h.2⟩
  · rename_i i j e1 e2; cases ha.int e1; cases hb.int e2
    exact opw op_fdivN ⟨i, j, rfl, rfl, h.1, Post.val hk (by simp only [Rep]) h.2⟩
  · rename_i i j e1 e2; cases ha.int e1; cases hb.int e2
    exact opw op_modN ⟨i, j, rfl, rfl, h.1, Post.val hk (by simp only [Rep]) h.2⟩
  · rename_i i j e1 e2; cases ha.int e1; cases hb.int e2
    exact opw op_pow ⟨i, j, rfl, rfl, h.1, Post.val hk (by simp only [Rep]) h.2⟩
  · rename_i i j e1 e2; cases ha.str e1; cases hb.str e2
    exact opw op_add_str ⟨i, j, rfl, rfl, h.1, Post.val hk (by simp only [Rep]) h.2⟩
  · rename_i xs ys e1 e2
    obtain ⟨l, vs, rfl, h1, h2⟩ := ha.lst hk e1
    obtain ⟨m, ws, rfl, h3, h4⟩ := hb.lst hk e2
    exact opw op_cat ⟨l, m, vs, ws, rfl, rfl, h1, h3, by rw [h2.length, h4.length]; exact h.1, fun p hp => Post.list hk hp (h2.append h4) h.2⟩
  · rename_i xs n e1 e2
    obtain ⟨l, vs, rfl, h1, h2⟩ := ha.lst hk e1
    cases hb.int e2
    refine opw op_rep ⟨l, n, vs, rfl, rfl, h1, h.1, h.2.1, by rw [h2.length]; exact h.2.2.1, fun p hp => Post.list hk hp ?_ h.2.2.2⟩
    have z : ∀ m : Nat, Reps g S (List.replicate m xs).flatten (List.replicate m vs).flatten := by
      intro m
      induction m with
      | zero => exact Reps.nil
      | succ m ih =>
        rw [List.replicate_succ, List.replicate_succ, List.flatten_cons, List.flatten_cons]
        exact h2.append ih
    exact z _
  · exact h.elim
theorem eq_ok {neg : Bool} {a b : D} (ck : CxOk g k X) (hk : Ok st S H) (ha : Rep g H a x) (hb : Rep g H b y) (h : wEq neg a b P) : opW X (compareOp (if neg then .NotEq else .Eq)) x y H (Post g st H0 S H P) := by
  have hu := ck.room.units
  have fin : ∀ {c d : Bool}, P (.val (.bl d)) → c = d → Post g st H0 S H P (.bl c) H := fun h e => Post.val hk (by simp only [Rep, e]) h
  have gen : (∃ p q, a.py = some p ∧ b.py = some q ∧ SeqAt.shaped p = true ∧ SeqAt.shaped q = true ∧ P (.val (.bl (neg ^^ PyData.eqv p q)))) → opW X (compareOp (if neg then .NotEq else .Eq)) x y H (Post g st H0 S H P) := by
    rintro ⟨p, q, e1, e2, e3, e4, e5⟩
    have d1 : Dp X.K H x p := by rw [ck.K]; exact ha.dp e1
    have d2 : Dp X.K H y q := by rw [ck.K]; exact hb.dp e2
    cases neg with
    | false => exact opw (op_eqD hu) ⟨p, q, d1, d2, e3, e4, fin e5 (by simp)⟩
    | true => exact opw (op_neD hu) ⟨p, q, d1, d2, e3, e4, fin e5 (by simp)⟩
  unfold wEq at h
  split at h
  · rename_i i j
    simp only [Rep] at ha hb
    subst ha hb
    cases neg with
    | false => exact opw op_eq ⟨rfl, fin h (by simp)⟩
    | true => exact opw op_ne ⟨rfl, fin h (by simp)⟩
  · rename_i i j
    simp only [Rep] at ha hb
    subst ha hb
    cases neg with
    | false => exact opw op_eq ⟨rfl, fin h (by simp)⟩
    | true => exact opw op_ne ⟨rfl, fin h (by simp)⟩
  · rename_i i j
    simp only [Rep] at ha hb
    subst ha hb
    cases neg with
    | false => exact opw op_eq ⟨rfl, fin h (by simp)⟩
    | true => exact opw op_ne ⟨rfl, fin h (by simp)⟩
  · exact gen h
theorem Rep.isNon {d : D} (h : Rep g S d v) : decide (v = .non) = d.isNon := by
  cases d <;> simp only [Rep] at h
  · subst h; rfl
  · subst h; rfl
  · subst h; rfl
  · subst h; rfl
  · obtain ⟨a, vs, rfl, _⟩ := h; rfl
  · obtain ⟨a, vs, rfl, _⟩ := h; rfl
  · obtain ⟨a, vs, rfl, _⟩ := h; rfl
  · obtain ⟨a, vs, rfl, _⟩ := h; rfl
  · obtain ⟨a, vs, _, rfl, _⟩ := h; rfl
theorem op_isB : OpR X (compareOp .Is) (fun x y H Q => ∃ b c, x = .bl b ∧ y = .bl c ∧ Q (.bl (b == c)) H) := by
  intro pins s σ H x y v u Q I rx ry h
  obtain ⟨b, c, rfl, rfl, q⟩ := h
  cases rx; cases ry
  show wpAny _ _ ((isSame (.bool b) (.bool c)) >>= fun z => pure (Value.bool z)) _ _ s
  exact wpAny_bind (wpAny_isSame_plain rfl (wpAny_pure (fin_bl I q (by cases b <;> cases c <;> rfl))))
theorem op_isnB : OpR X (compareOp .IsNot) (fun x y H Q => ∃ b c, x = .bl b ∧ y = .bl c ∧ Q (.bl (!(b == c))) H) := by
  intro pins s σ H x y v u Q I rx ry h
  obtain ⟨b, c, rfl, rfl, q⟩ := h
  cases rx; cases ry
  show wpAny _ _ ((isSame (.bool b) (.bool c)) >>= fun z => pure (Value.bool (!z))) _ _ s
  exact wpAny_bind (wpAny_isSame_plain rfl (wpAny_pure (fin_bl I q (by cases b <;> cases c <;> rfl))))
theorem cmp_ok {o : CmO} (ck : CxOk g k X) (hk : Ok st S H) (ha : RepR g st H0 S H1 H ra x) (hb : RepR g st H0 S H2 H rb y) (h : wCmp o ra rb P) : opW X (compareOp o.op) x y H (Post g st H0 S H P) := by
  unfold wCmp at h
  split at h
  · rename_i e1 e2; exact eq_ok (neg := false) ck hk (ha.see hk e1) (hb.see hk e2) h
  · rename_i e1 e2; exact eq_ok (neg := true) ck hk (ha.see hk e1) (hb.see hk e2) h
  · rename_i i j e1 e2; cases ha.int e1; cases hb.int e2
    exact opw op_lt ⟨i, j, rfl, rfl, Post.val hk (by simp only [Rep]) h⟩
  · rename_i i j e1 e2; cases ha.int e1; cases hb.int e2
    exact opw op_le ⟨i, j, rfl, rfl, Post.val hk (by simp only [Rep]) h⟩
  · rename_i i j e1 e2; cases ha.int e1; cases hb.int e2
    exact opw op_gt ⟨i, j, rfl, rfl, Post.val hk (by simp only [Rep]) h⟩
  · rename_i i j e1 e2; cases ha.int e1; cases hb.int e2
    exact opw op_ge ⟨i, j, rfl, rfl, Post.val hk (by simp only [Rep]) h⟩
  · rename_i d e1 e2
    have hn := hb.see hk e2
    simp only [Rep] at hn
    subst hn
    refine opw op_isN ⟨rfl, Post.val hk ?_ h⟩
    rw [(ha.see hk e1).isNon]
    simp only [Rep]
  · rename_i d e1 e2
    have hn := hb.see hk e2
    simp only [Rep] at hn
    subst hn
    refine opw op_notN ⟨rfl, Post.val hk ?_ h⟩
    rw [(ha.see hk e1).isNon]
    simp only [Rep]
  · rename_i b c e1 e2
    have h1 := ha.see hk e1
    have h2 := hb.see hk e2
    simp only [Rep] at h1 h2
    subst h1 h2
    exact opw op_isB ⟨b, c, rfl, rfl, Post.val hk (by simp only [Rep]) h⟩
  · rename_i b c e1 e2
    have h1 := ha.see hk e1
    have h2 := hb.see hk e2
    simp only [Rep] at h1 h2
    subst h1 h2
    exact opw op_isnB ⟨b, c, rfl, rfl, Post.val hk (by simp only [Rep]) h⟩
  · exact h.elim

/-! ### items -/
theorem atI_reps {xs : List D} {vs : List V} {i : Int} {d : D} (h : Reps g S xs vs) (e : atI xs i = some d) : ∃ v, atI vs i = some v ∧ Rep g S d v := by
  unfold atI at e ⊢
  rw [h.length]
  cases q : ixN xs.length i with
  | none => rw [q] at e; cases e
  | some j => rw [q] at e; exact h.get' e
theorem idx_ok (ck : CxOk g k X) (hk : Ok st S H) (ha : RepR g st H0 S H1 H ra x) (hb : RepR g st H0 S H2 H rb y) (h : wIdx ra rb P) : ixW X x y H (Post g st H0 S H P) := by
  have hl : ∀ {i : Int} {xs : List D} {d : D}, ra.lv = some xs → rb = .val (.int i) → atI xs i = some d → P (.val d) → ixW X x y H (Post g st H0 S H P) := by
    intro i xs d e1 e2 e3 hp
    subst e2
    simp only [RepR, Rep] at hb
    subst hb
    obtain ⟨l, vs, rfl, h1, h2⟩ := ha.lv hk e1
    obtain ⟨v, h3, h4⟩ := atI_reps h2 e3
    exact ixw ix_list ⟨l, vs, i, v, rfl, rfl, SqL.of h1, h3, Post.val hk h4 hp⟩
  unfold wIdx at h
  split at h
  · rename_i xs i
    split at h
    · rename_i d e3
      simp only [RepR, Rep] at ha hb
      subst hb
      obtain ⟨a, vs, rfl, h1, h2⟩ := ha
      obtain ⟨v, h3, h4⟩ := atI_reps h2 e3
      exact ixw ix_tup ⟨a, vs, i, v, rfl, rfl, by rw [ck.K]; exact hk.sub.t h1, h3, Post.val hk h4 h⟩
    · exact h.elim
  · rename_i z i
    obtain ⟨hz, h⟩ := h
    split at h
    · rename_i c e3
      simp only [RepR, Rep] at ha hb
      subst ha hb
      exact ixw ix_str ⟨z, i, c, rfl, rfl, hz, e3, Post.val hk (by simp only [Rep]) h⟩
    · exact h.elim
  · rename_i a i
    split at h
    · rename_i xs e1
      split at h
      · rename_i d e3
        exact hl e1 rfl e3 h
      · exact h.elim
    · exact h.elim
  · exact h.elim

/-! ### calls of built-ins -/
theorem ints_reps {xs : List D} {ns : List Int} {vs : List V} (h : Reps g S xs vs) (e : D.isInts xs = some ns) : vs = ns.map V.int := by
  have z : xs = ns.map D.int := by
    clear h
    induction xs generalizing ns with
    | nil => simp [D.isInts] at e; subst e; rfl
    | cons d r ih =>
      cases d with
      | int i =>
        simp only [D.isInts] at e
        cases q : D.isInts r with
        | none => rw [q] at e; cases e
        | some l => rw [q] at e; cases e; rw [ih q]; rfl
      | _ => simp [D.isInts] at e
  subst z
  exact h.ints
theorem bls_reps {xs : List D} {ns : List Bool} {vs : List V} (h : Reps g S xs vs) (e : D.isBls xs = some ns) : vs = ns.map V.bl := by
  have z : xs = ns.map D.bl := by
    clear h
    induction xs generalizing ns with
    | nil => simp [D.isBls] at e; subst e; rfl
    | cons d r ih =>
      cases d with
      | bl i =>
        simp only [D.isBls] at e
        cases q : D.isBls r with
        | none => rw [q] at e; cases e
        | some l => rw [q] at e; cases e; rw [ih q]; rfl
      | _ => simp [D.isBls] at e
  subst z
  exact h.bls
/-- several results, borne by several values -/
inductive RepRs (g : Gb) (st : Option StA) (H0 S HS H : Hp) : List R → List V → Prop
  | nil : RepRs g st H0 S HS H [] []
  | cons {r : R} {v : V} {rs : List R} {vs : List V} : RepR g st H0 S HS H r v → RepRs g st H0 S HS H rs vs → RepRs g st H0 S HS H (r :: rs) (v :: vs)
theorem RepRs.step {rs : List R} {vs : List V} {HS S' H' : Hp} (h : RepRs g st H0 S HS H rs vs) (o : Ok st S H) (s : Step st S H S' H') : RepRs g st H0 S' HS H' rs vs := by
  induction h with
  | nil => exact .nil
  | cons a b ih => exact .cons (a.step o s) ih
theorem RepRs.since {rs : List R} {vs : List V} {HS HS' : Hp} (h : RepRs g st H0 S HS H rs vs) (k : ∀ l, HS l = none → HS' l = none) : RepRs g st H0 S HS' H rs vs := by
  induction h with
  | nil => exact .nil
  | cons a b ih => exact .cons (a.since k) ih
theorem RepRs.one {vs : List V} (h : RepRs g st H0 S H1 H [r] vs) : ∃ v, vs = [v] ∧ RepR g st H0 S H1 H r v := by
  cases h with
  | cons a b => cases b; exact ⟨_, rfl, a⟩
theorem RepRs.two {vs : List V} (h : RepRs g st H0 S H1 H [ra, rb] vs) : ∃ v w, vs = [v, w] ∧ RepR g st H0 S H1 H ra v ∧ RepR g st H0 S H1 H rb w := by
  cases h with
  | cons a b =>
    obtain ⟨w, rfl, h⟩ := b.one
    exact ⟨_, w, rfl, a, h⟩
theorem len_ok {n : Int} (ck : CxOk g k X) (hk : Ok st S H) (h : RepR g st H0 S H1 H r v) (e : r.len = some n) (p : P (.val (.int n))) : callW X (.builtin "len") [v] H (Post g st H0 S H P) := by
  have fin : ∀ {m : Int}, m = n → Post g st H0 S H P (.int m) H := fun e => Post.val hk (by simp only [Rep, e]) p
  have hl : ∀ {xs : List D}, r.lv = some xs → (xs.length : Int) = n → callW X (.builtin "len") [v] H (Post g st H0 S H P) := by
    intro xs e1 e2
    obtain ⟨l, vs, rfl, h1, h2⟩ := h.lv hk e1
    exact callw call_len_seq ⟨l, vs, rfl, .inl (SqL.of h1), fin (by rw [h2.length]; exact e2)⟩
  unfold R.len at e
  split at e
  · exact hl rfl (Option.some.inj e)
  · simp only [RepR, Rep] at h
    obtain ⟨a, vs, rfl, h1, h2⟩ := h
    exact callw call_len_seq ⟨a, vs, rfl, .inr (by rw [ck.K]; exact hk.sub.t h1), fin (by rw [h2.length]; exact Option.some.inj e)⟩
  · simp only [RepR, Rep] at h
    obtain ⟨a, vs, rfl, h1, h2⟩ := h
    exact callw call_len_seq ⟨a, vs, rfl, .inl (by rw [ck.K]; exact hk.sub.l h1), fin (by rw [h2.length]; exact Option.some.inj e)⟩
  · split at e
    · rename_i z hz
      simp only [RepR, Rep] at h
      subst h
      exact callw call_len_str ⟨_, rfl, hz, fin (Option.some.inj e)⟩
    · cases e
  · cases e
  · exact hl rfl (Option.some.inj e)
  · exact hl rfl (Option.some.inj e)
  · cases e
/-! max, min, sum of a tuple of ints -/
theorem min_intTup {prog : Program} {w : World} {A : Around} {E : Value → Shared → Prop} {s : Shared} {l : Addr} {xs : Array (Int × Tok)} {Q : Value → Shared → Prop} (hh : A.handled = none) (hl : s.heap.IsTuple l (intItems xs)) (hne : 0 < xs.size)
    (h : ∀ v h' tk, (intItems xs)[argBest (fun i j => decide (numAt xs i < numAt xs j)) (xs.size - 1)]? = some v → (∀ b o, s.heap.get? b = some o → h'.get? b = some o) → Q v { s with heap := h', toks := tk }) :
    wpAny (model prog w) A (call (.builtin "min") [.ref l]) Q E s := by
  obtain ⟨o, ho, hc, n, hd⟩ := id hl
  have hlI : l ≠ s.heap.objs.size := Nat.ne_of_lt (Heap.lt_size ho)
  refine call_min_walk (wpAny_pyIter_tuple hl ?_)
  refine ⟨s.heap.objs.size, _, _, _, _, _, _, rfl, Walks.tuple (A := A.in1) hh s.heap.objs.size l hlI (intItems xs), ⟨⟨_, Heap.get?_push_size _ rfl, rfl, rfl⟩, hl.at fun o e => Heap.get?_push_of_some _ e⟩, fun b hb => ?_, by simpa [intItems] using hne, CmpOf.ints_lt (numAt xs) (fun _ _ => intItems_at), fun v h' tk hP hk => ?_⟩
  · rcases List.mem_cons.mp hb with rfl | hb
    · exact Heap.lt_size (Heap.get?_push_size _ rfl)
    · obtain rfl := List.mem_singleton.mp hb
      exact Heap.lt_size (Heap.get?_push_of_some _ ho)
  · exact h v h' tk (by simpa [intItems] using hP) fun b o e => hk b o (fun hb => absurd (Heap.lt_size e) ((List.mem_singleton.mp hb) ▸ Nat.lt_irrefl _)) (Heap.get?_push_of_some _ e)
theorem max_intTup {prog : Program} {w : World} {A : Around} {E : Value → Shared → Prop} {s : Shared} {l : Addr} {xs : Array (Int × Tok)} {Q : Value → Shared → Prop} (hh : A.handled = none) (hl : s.heap.IsTuple l (intItems xs)) (hne : 0 < xs.size)
    (h : ∀ v h' tk, (intItems xs)[argBest (fun i j => decide (numAt xs i > numAt xs j)) (xs.size - 1)]? = some v → (∀ b o, s.heap.get? b = some o → h'.get? b = some o) → Q v { s with heap := h', toks := tk }) :
    wpAny (model prog w) A (call (.builtin "max") [.ref l]) Q E s := by
  obtain ⟨o, ho, hc, n, hd⟩ := id hl
  have hlI : l ≠ s.heap.objs.size := Nat.ne_of_lt (Heap.lt_size ho)
  refine call_max_walk (wpAny_pyIter_tuple hl ?_)
  refine ⟨s.heap.objs.size, _, _, _, _, _, _, rfl, Walks.tuple (A := A.in1) hh s.heap.objs.size l hlI (intItems xs), ⟨⟨_, Heap.get?_push_size _ rfl, rfl, rfl⟩, hl.at fun o e => Heap.get?_push_of_some _ e⟩, fun b hb => ?_, by simpa [intItems] using hne, CmpOf.ints_gt (numAt xs) (fun _ _ => intItems_at), fun v h' tk hP hk => ?_⟩
  · rcases List.mem_cons.mp hb with rfl | hb
    · exact Heap.lt_size (Heap.get?_push_size _ rfl)
    · obtain rfl := List.mem_singleton.mp hb
      exact Heap.lt_size (Heap.get?_push_of_some _ ho)
  · exact h v h' tk (by simpa [intItems] using hP) fun b o e => hk b o (fun hb => absurd (Heap.lt_size e) ((List.mem_singleton.mp hb) ▸ Nat.lt_irrefl _)) (Heap.get?_push_of_some _ e)
def SqA (K : PySem.W.Frag) (H : Hp) (a : Addr) (vs : List V) : Prop := SqL K H a vs ∨ SqT K H a vs
theorem cr_minS (hc : X.calm = true) : CallR X (.builtin "min") (fun vs H Q => ∃ (a : Addr) (ns : List Int), vs = [V.ref a] ∧ SqA X.K H a (ns.map V.int) ∧ 0 < ns.length ∧ ∀ m, m ∈ ns → (∀ y, y ∈ ns → m ≤ y) → Q (.int m) H) := by
  intro pins s σ H vs us Q I r h
  obtain ⟨a, ns, rfl, hs, hne, q⟩ := h
  rcases hs with hs | hs
  · exact cr_min hc pins s σ H _ us Q I r ⟨a, ns, rfl, hs, hne, q⟩
  · obtain ⟨its, rv, hl, _⟩ := I.tuple hs
    have hl : s.heap.IsTuple a its.toArray := hl
    rw [Vals.ref1 r]
    have hi := rv.ints
    obtain ⟨xs, e⟩ := hi.allInts.items
    have hn : numsOf (intItems xs).toList = ns := by rw [← e]; exact hi.numsOf
    rw [nums_intItems] at hn
    subst hn
    rw [e] at hl
    have hsz : 0 < xs.size := by simpa using hne
    refine min_intTup (I.ok.hd hc) hl hsz fun v h' tk hv hk => ?_
    obtain ⟨t, rfl⟩ := intItems_at hv
    obtain ⟨h1, h2⟩ := argBest_lt (numAt xs) (xs.size - 1)
    refine ⟨.int _, H, I.kept hk, ⟨_, rfl⟩, q _ ?_ fun a ha => ?_⟩
    · rw [numAt_eq]; exact PySem.getD_mem (by rw [List.length_map, Array.length_toList]; omega)
    · obtain ⟨j, hj, rfl⟩ := mem_getD ha
      rw [List.length_map, Array.length_toList] at hj
      rw [← numAt_eq]; exact h2 j (by omega)
theorem cr_maxS (hc : X.calm = true) : CallR X (.builtin "max") (fun vs H Q => ∃ (a : Addr) (ns : List Int), vs = [V.ref a] ∧ SqA X.K H a (ns.map V.int) ∧ 0 < ns.length ∧ ∀ m, m ∈ ns → (∀ y, y ∈ ns → y ≤ m) → Q (.int m) H) := by
  intro pins s σ H vs us Q I r h
  obtain ⟨a, ns, rfl, hs, hne, q⟩ := h
  rcases hs with hs | hs
  · exact cr_max hc pins s σ H _ us Q I r ⟨a, ns, rfl, hs, hne, q⟩
  · obtain ⟨its, rv, hl, _⟩ := I.tuple hs
    have hl : s.heap.IsTuple a its.toArray := hl
    rw [Vals.ref1 r]
    have hi := rv.ints
    obtain ⟨xs, e⟩ := hi.allInts.items
    have hn : numsOf (intItems xs).toList = ns := by rw [← e]; exact hi.numsOf
    rw [nums_intItems] at hn
    subst hn
    rw [e] at hl
    have hsz : 0 < xs.size := by simpa using hne
    refine max_intTup (I.ok.hd hc) hl hsz fun v h' tk hv hk => ?_
    obtain ⟨t, rfl⟩ := intItems_at hv
    obtain ⟨h1, h2⟩ := argBest_gt (numAt xs) (xs.size - 1)
    refine ⟨.int _, H, I.kept hk, ⟨_, rfl⟩, q _ ?_ fun a ha => ?_⟩
    · rw [numAt_eq]; exact PySem.getD_mem (by rw [List.length_map, Array.length_toList]; omega)
    · obtain ⟨j, hj, rfl⟩ := mem_getD ha
      rw [List.length_map, Array.length_toList] at hj
      rw [← numAt_eq]; exact h2 j (by omega)
theorem cr_sumS (hc : X.calm = true) : CallR X (.builtin "sum") (fun vs H Q => ∃ (a : Addr) (ns : List Int), vs = [V.ref a] ∧ SqA X.K H a (ns.map V.int) ∧ Q (.int ns.sum) H) := by
  intro pins s σ H vs us Q I r h
  obtain ⟨a, ns, rfl, hs, q⟩ := h
  rcases hs with hs | hs
  · exact cr_sum hc pins s σ H _ us Q I r ⟨a, ns, rfl, hs, q⟩
  · obtain ⟨its, rv, hl, _⟩ := I.tuple hs
    have hl : s.heap.IsTuple a its.toArray := hl
    rw [Vals.ref1 r]
    have hi := rv.ints
    obtain ⟨xs, e⟩ := hi.allInts.items
    have hn : numsOf (intItems xs).toList = ns := by rw [← e]; exact hi.numsOf
    rw [nums_intItems] at hn
    rw [e] at hl
    refine PySem.W.ktm_sumG (I.ok.hd hc) hl fun h' tk t' hk => ⟨.int _, H, I.kept hk, ⟨_, rfl⟩, ?_⟩
    rw [preSum_eq, List.take_of_length_le (by simp), hn]
    exact q
theorem bi_ok {b : String} {rs : List R} {vs : List V} (ck : CxOk g k X) (hk : Ok st S H) (h : RepRs g st H0 S H1 H rs vs) (p : wBi b rs P) : callW X (.builtin b) vs H (Post g st H0 S H P) := by
  have lst : ∀ {r : R} {xs : List D} {ns : List Int}, RepRs g st H0 S H1 H [r] vs → r.sv = some xs → D.isInts xs = some ns → ∃ a, vs = [V.ref a] ∧ SqA X.K H a (ns.map V.int) := by
    intro r xs ns h e1 e2
    obtain ⟨v, rfl, h1⟩ := h.one
    have ll : r.lv = some xs → ∃ a, [v] = [V.ref a] ∧ SqA X.K H a (ns.map V.int) := fun e1 => by
      obtain ⟨l, ws, rfl, h2, h3⟩ := h1.lv hk e1
      exact ⟨l, rfl, .inl (by rw [← ints_reps h3 e2]; exact SqL.of h2)⟩
    unfold R.sv at e1
    split at e1
    · cases e1
      simp only [RepR, Rep] at h1
      obtain ⟨l, ws, rfl, h2, h3⟩ := h1
      exact ⟨l, rfl, .inr (by rw [← ints_reps h3 e2, ck.K]; exact hk.sub.t h2)⟩
    · cases e1
      simp only [RepR, Rep] at h1
      obtain ⟨l, ws, rfl, h2, h3⟩ := h1
      exact ⟨l, rfl, .inl (by rw [← ints_reps h3 e2, ck.K]; exact hk.sub.l h2)⟩
    · exact ll e1
  have lsb : ∀ {r : R} {xs : List D} {ns : List Bool}, RepRs g st H0 S H1 H [r] vs → r.lv = some xs → D.isBls xs = some ns → ∃ a, vs = [V.ref a] ∧ SqL X.K H a (ns.map V.bl) := by
    intro r xs ns h e1 e2
    obtain ⟨v, rfl, h1⟩ := h.one
    obtain ⟨l, ws, rfl, h2, h3⟩ := h1.lv hk e1
    exact ⟨l, rfl, by rw [← bls_reps h3 e2]; exact SqL.of h2⟩
  unfold wBi at p
  split at p
  · rename_i e; subst e
    split at p
    · rename_i a
      split at p
      · rename_i n e1
        obtain ⟨v, rfl, h1⟩ := h.one
        exact len_ok ck hk h1 e1 p
      · exact p.elim
    · exact p.elim
  · split at p
    · rename_i e; subst e
      split at p
      · rename_i i
        obtain ⟨v, rfl, h1⟩ := h.one
        simp only [RepR, Rep] at h1
        subst h1
        exact callw call_abs ⟨i, rfl, Post.val hk (by simp only [Rep]) p⟩
      · exact p.elim
    · split at p
      · rename_i e; subst e
        split at p
        · rename_i i j
          obtain ⟨v, w, rfl, h1, h2⟩ := h.two
          simp only [RepR, Rep] at h1 h2
          subst h1 h2
          exact callw (call_min2 ck.calm) ⟨i, j, rfl, Post.val hk (by simp only [Rep]) p⟩
        · rename_i a
          split at p
          · rename_i xs e1
            split at p
            · rename_i ns e2
              obtain ⟨a, rfl, hs⟩ := lst h e1 e2
              exact callw (cr_minS ck.calm) ⟨a, ns, rfl, hs, p.1, fun m hm hle => Post.val hk (by simp only [Rep]) (p.2 m hm hle)⟩
            · exact p.elim
          · exact p.elim
        · exact p.elim
      · split at p
        · rename_i e; subst e
          split at p
          · rename_i i j
            obtain ⟨v, w, rfl, h1, h2⟩ := h.two
            simp only [RepR, Rep] at h1 h2
            subst h1 h2
            exact callw (call_max2 ck.calm) ⟨i, j, rfl, Post.val hk (by simp only [Rep]) p⟩
          · rename_i a
            split at p
            · rename_i xs e1
              split at p
              · rename_i ns e2
                obtain ⟨a, rfl, hs⟩ := lst h e1 e2
                exact callw (cr_maxS ck.calm) ⟨a, ns, rfl, hs, p.1, fun m hm hle => Post.val hk (by simp only [Rep]) (p.2 m hm hle)⟩
              · exact p.elim
            · exact p.elim
          · exact p.elim
        · split at p
          · rename_i e; subst e
            split at p
            · split at p
              · rename_i xs e1
                split at p
                · rename_i ns e2
                  obtain ⟨a, rfl, hs⟩ := lst h e1 e2
                  exact callw (cr_sumS ck.calm) ⟨a, ns, rfl, hs, Post.val hk (by simp only [Rep]) p⟩
                · exact p.elim
              · exact p.elim
            · exact p.elim
          · split at p
            · rename_i e; subst e
              split at p
              · split at p
                · rename_i xs e1
                  split at p
                  · rename_i ns e2
                    obtain ⟨a, rfl, hs⟩ := lsb h e1 e2
                    exact callw (cr_all ck.calm) ⟨a, ns, rfl, hs, Post.val hk (by simp only [Rep]) p⟩
                  · exact p.elim
                · exact p.elim
              · exact p.elim
            · split at p
              · rename_i e; subst e
                split at p
                · split at p
                  · rename_i xs e1
                    split at p
                    · rename_i ns e2
                      obtain ⟨a, rfl, hs⟩ := lsb h e1 e2
                      exact callw (cr_any ck.calm) ⟨a, ns, rfl, hs, Post.val hk (by simp only [Rep]) p⟩
                    · exact p.elim
                  · exact p.elim
                · exact p.elim
              · exact p.elim
theorem ty_ok {t : String} {rs : List R} {vs : List V} (ck : CxOk g k X) (hk : Ok st S H) (h : RepRs g st H0 S H1 H rs vs) (p : wTy t rs P) : callW X (.type t) vs H (Post g st H0 S H P) := by
  unfold wTy at p
  split at p
  · rename_i e; subst e
    split at p
    · rename_i i
      obtain ⟨v, rfl, h1⟩ := h.one
      simp only [RepR, Rep] at h1
      subst h1
      exact callw call_int1 (.inl ⟨i, rfl, Post.val hk (by simp only [Rep]) p⟩)
    · rename_i i
      obtain ⟨v, rfl, h1⟩ := h.one
      simp only [RepR, Rep] at h1
      subst h1
      exact callw call_int1 (.inr ⟨i, rfl, Post.val hk (by simp only [Rep]) p⟩)
    · exact p.elim
  · split at p
    · rename_i e; subst e
      split at p
      · rename_i xs
        obtain ⟨v, rfl, h1⟩ := h.one
        have h1' := h1
        simp only [RepR, Rep] at h1
        obtain ⟨a, vs, rfl, h2, h3⟩ := h1
        exact callw call_tuple_of ⟨a, vs, rfl, .inr ⟨by rw [ck.K]; exact hk.sub.t h2, Post.val hk h1' p⟩⟩
      · rename_i a
        split at p
        · rename_i xs e1
          obtain ⟨v, rfl, h1⟩ := h.one
          obtain ⟨l, ws, rfl, h2, h3⟩ := h1.lv hk e1
          exact callw call_tuple_of ⟨l, ws, rfl, .inl ⟨SqL.of h2, fun q hq => Post.tup hk hq h3 p⟩⟩
        · exact p.elim
      · exact p.elim
    · split at p
      · rename_i e; subst e
        split at p
        · rename_i xs
          obtain ⟨v, rfl, h1⟩ := h.one
          simp only [RepR, Rep] at h1
          obtain ⟨a, vs, rfl, h2, h3⟩ := h1
          exact callw call_list_of ⟨a, vs, rfl, .inr (by rw [ck.K]; exact hk.sub.t h2), fun q hq => Post.list hk hq h3 p⟩
        · rename_i a
          split at p
          · rename_i xs e1
            obtain ⟨v, rfl, h1⟩ := h.one
            obtain ⟨l, ws, rfl, h2, h3⟩ := h1.lv hk e1
            exact callw call_list_of ⟨l, ws, rfl, .inl (SqL.of h2), fun q hq => Post.list hk hq h3 p⟩
          · exact p.elim
        · exact p.elim
      · exact p.elim
end
end Dl

set_option Elab.async false
set_option linter.all false
set_option maxRecDepth 100000
set_option maxHeartbeats 4000000
/-! Dl: what a text does that the check has passed: expressions. -/
namespace Dl
open PySem PySem.Spec PyProof.Rows L2

/-! ### promises -/
def ArgR (g : Gb) (st : Option StA) (S H : Hp) : Kd → R → V → Prop
  | .v, .val d, v => Rep g S d v
  | .b, .brw o xs, v => o = false ∧ ∃ l vs, v = .ref l ∧ H l = some (.lst vs) ∧ ¬ isSt st l ∧ Reps g S xs vs
  | .bD, .brwD o kvs, v => o = false ∧ ∃ l ws, v = .ref l ∧ H l = some (.dK ws) ∧ ¬ isSt st l ∧ RepK g S kvs ws
  | .s, .stt, v => ∃ t, st = some t ∧ v = .ref t.a
  | .a, .val d, v => Rep g S d v
  | .a, .brw o xs, v => o = false ∧ ∃ l vs, v = .ref l ∧ H l = some (.lst vs) ∧ ¬ isSt st l ∧ Reps g S xs vs
  | _, _, _ => False
inductive ArgsR (g : Gb) (st : Option StA) (S H : Hp) : List Kd → List R → List V → Prop
  | nil (ks : List Kd) : ArgsR g st S H ks [] []
  | cons {k : Kd} {r : R} {v : V} {ks : List Kd} {rs : List R} {vs : List V} : ArgR g st S H k r v → ArgsR g st S H ks rs vs → ArgsR g st S H (k :: ks) (r :: rs) (v :: vs)
/-- an exception: its class, its own dict -/
def RepX (g : Gb) (S : Hp) (x : XD) (cls : Value) (d : Option Addr) : Prop := cls = .ref (g.cl x.c) ∧ match d with
  | none => x.fs = []
  | some dx => ∃ gs, S dx = some (.xd gs) ∧ RepF g S x.fs gs
def XPost (g : Gb) (st : Option StA) (S H : Hp) (X : XD → Prop) : XK := fun cls d H' => ∃ x S', Step st S H S' H' ∧ RepX g S' x cls d ∧ X x
def LIM : Nat := 2 ^ 40
def Lim : Option StA → Prop
  | none => True
  | some t => t.lim ≤ LIM
/-- a def's promise, over data; b: it may do so many turns of the state -/
def spOf (g : Gb) (f : FS) (b : Nat) : Sp := fun vs H Q E => ∃ st S as, Ok st S H ∧ Lim (up st b) ∧ ArgsR g st S H f.ks as vs ∧
  f.sp as (fun r => r.out = true ∧ ∀ v H' S', Step (up st b) S H S' H' → RepR g (up st b) H S' H H' r v → Q v H') (fun x => ∀ cls d H' S', Step (up st b) S H S' H' → RepX g S' x cls d → E cls d H')
/-- an __init__'s promise: the new instance at x -/
def spIni (g : Gb) (c : Str) (f : FS) (b : Nat) : Sp := fun vs H Q E => ∃ st S Hp0 as x dx ws, vs = .ref x :: ws ∧ Ok st S Hp0 ∧ Lim (up st b) ∧ Hp0 x = none ∧ Hp0 dx = none ∧ dx ≠ x ∧ H = upd (upd Hp0 dx (.own x)) x (.ins (g.cl c) dx []) ∧ ArgsR g st S Hp0 f.ks as ws ∧
  f.sp as (fun r => ∃ fs, r = .val (.obj c fs) ∧ ∀ gs H' S', Step (up st b) S Hp0 S' H' → H' x = some (.ins (g.cl c) dx gs) → S' x = none → RepF g S' fs gs → Q .non H') (fun x => ∀ cls d H' S', Step (up st b) S Hp0 S' H' → RepX g S' x cls d → E cls d H')
def Cst.v : Cst → V
  | .non => .non | .bl b => .bl b | .int i => .int i | .str s => .str s
def tyV (g : Gb) : Ty → Value
  | .b n => .type n
  | .c x => .ref (g.cl x)
structure InsOk (K : PySem.W.Frag) (C : Addr) : Prop where
  cl : Cls K C
  ha : PySem.W.findIn K (.ref C) "__class__" = some (some (.builtin "object.__class__"))
  hn : PySem.W.specialIn K (.builtin "object.__class__") "__get__" = some (some (.builtin "getset_descriptor.__get__"))
  htk : PySem.W.takesIn K (.builtin "object.__class__") = some true
  hm : PySem.W.mroIn K C (.type "object") = some true
/-- the call of a def of the written part where no repr is under way -/
def FnG (P : Program) (w : World) (K : PySem.W.Frag) (mg : Str → Option Value) (base : Heap) (CX : CXT) (k : Nat) (f : Addr) (sp : Sp) : Prop :=
  ∀ (A : Around) (outer : List PySem.Env) (s : Shared) (H : Hp) (us : List Value) (vs : List V) (Q : VK) (E : XK), Room k A → A.guards = some [] → Env0 P w K mg base A outer s H → Vals vs us → sp vs H Q E →
    codeAny (model P w) A (.call (.ref f) ⟨us, []⟩) (CR CX outer P w H s Q E) s
/-- what a context says holds here, by at most level k -/
structure CtOk (g : Gb) (C : Ct) (k : Nat) : Prop where
  fn : ∀ x f, C.fn x = some f → ∃ a, g.mg x = some (.ref a) ∧ PySem.W.keepIn g.K (.ref a) = true ∧ FnR g.P g.w g.K g.mg g.base (L2.CX g.P g.w) k a (spOf g f (C.cf x))
  fnG : ∀ x f, C.fnG x = some f → ∃ a, g.mg x = some (.ref a) ∧ PySem.W.keepIn g.K (.ref a) = true ∧ FnG g.P g.w g.K g.mg g.base (L2.CX g.P g.w) k a (spOf g f (C.cf x))
  ini : ∀ c f, C.ini c = some f → ∃ a, g.mg c = some (.ref (g.cl c)) ∧ Mk g.K (g.cl c) a ∧ FnR g.P g.w g.K g.mg g.base (L2.CX g.P g.w) k a (spIni g c f (C.cf c))
  me : ∀ c m f, C.me c m = some f → ∃ a, Cls g.K (g.cl c) ∧ Meth g.K (g.cl c) m a ∧ FnR g.P g.w g.K g.mg g.base (L2.CX g.P g.w) k a (spOf g f (C.cm c m))
  pr : ∀ c p f, C.pr c p = some f → ∃ q a fd ps, Cls g.K (g.cl c) ∧ PropOf g.K (g.cl c) p q a ∧ FnOk g.P g.w g.K g.mg g.base (L2.CX g.P g.w) k a fd ps (spOf g f 0) ∧ Binds g.K fd ps []
  gc : ∀ x c, C.gc x = some c → ∃ u, g.mg x = some u ∧ RelV c.v u
  isa : ∀ s t r, C.isa s t = some r → PySem.W.kitOne g.K (tyV g s) (tyV g t) = some r
  fld : ∀ c f, C.fld c f = true → Cls g.K (g.cl c) ∧ NoAttr g.K (g.cl c) f
  cls : ∀ c, C.cls c = true → InsOk g.K (g.cl c) ∧ g.mg c = some (.ref (g.cl c))
  free : ∀ x, C.free x = true → g.mg x = none
  iniV : ∀ c v f, C.iniV c v = some f → ∃ a, g.mg c = some (.ref (g.cl c)) ∧ Mk g.K (g.cl c) a ∧ FnR g.P g.w g.K g.mg g.base (L2.CX g.P g.w) k a (spIni g c f (C.cv c v))
  inK : ∀ c ks pm f, C.inK c ks = some (pm, f) → ∃ a fd ps gg gV, g.mg c = some (.ref (g.cl c)) ∧ Mk g.K (g.cl c) a ∧ FnOk g.P g.w g.K g.mg g.base (L2.CX g.P g.w) k a fd ps (spIni g c f (C.ck c ks)) ∧ KBn g.K fd ps 1 ks gg gV ∧ ∀ x zs, gV [x] zs = x :: permL pm zs
  own : ∀ c, C.own c = true → PySem.W.selfFirst g.K (g.cl c) = true ∧ PySem.W.findIn g.K (.ref (g.cl c)) "__ne__" = some (some (.builtin "object.__ne__")) ∧ PySem.W.mroIn g.K (g.cl c) (.type "object") = some true
/-- .. and the static side -/
structure CxG (g : Gb) (Γ : Sc) (k : Nat) (X : Cx) : Prop where
  ok : CxOk g (k + 1) X
  sc : X.env.scope = Γ.sc
  N : X.N = Γ.N
  fo : ∀ x, Γ.fo x = true → X.fn x = true
  gd : Γ.gd = true → X.A.guards = some []
/-- the wish about exceptions -/
def WishX (g : Gb) (st : Option StA) (S0 H0 : Hp) (ex : XD → Prop) : WX := fun cls d _ H => XPost g st S0 H0 ex cls d H

/-! ### runs -/
def RunE (X : Cx) (e : Expr) : TE := fun σ H Q => ∀ (pins : List (Addr × Obj)) (s : Shared), Inv X pins σ H s → wpAny (model X.prog X.w) X.A (eval e X.env) (EP X pins σ Q) X.xe s
def RunA (X : Cx) (es : List Expr) : TA := fun σ H Q => ∀ (pos : Pos) (pins : List (Addr × Obj)) (s : Shared), Inv X pins σ H s → wpAny (model X.prog X.w) X.A (spliced (backTo pos (starEach es X.env))) (AP X pins σ Q) X.xe s
def RunT (X : Cx) (e : Expr) : TT := fun σ H Q => ∀ (pins : List (Addr × Obj)) (s : Shared), Inv X pins σ H s → wpAny (model X.prog X.w) X.A (isTrue e X.env (eval e X.env)) (TP X pins σ Q) X.xe s
def RunC (X : Cx) (es : List Expr) : TT := fun σ H Q => ∀ (pins : List (Addr × Obj)) (s : Shared), Inv X pins σ H s →
  wpAny (model X.prog X.w) X.A (forIn es true fun c r => if r = true then do let ok ← isTrue c X.env (eval c X.env); pure (ForInStep.yield ok) else pure (ForInStep.yield r)) (TP X pins σ Q) X.xe s
def RunI (X : Cx) (tg iter : Expr) : TI := fun σ H R => ∀ (pins : List (Addr × Obj)) (s : Shared), Inv X pins σ H s →
  wpAny (model X.prog X.w) X.A (eval iter X.env) (fun v s1 => wpAny (model X.prog X.w) X.A (pyIter v) (PIE X pins σ tg R) X.xe s1) X.xe s
def RunO (X : Cx) (e : Option Expr) : TO := match e with
  | none => tNoPart
  | some e => tPart (RunE X e)
section
variable {X : Cx} {e : Expr} {es : List Expr} {σ : L2.St} {H : Hp}
theorem pe_run : PE X e (RunE X e) := ⟨fun pins s σ H Q I h => h pins s I⟩
theorem pa_run : PA X es (RunA X es) := ⟨fun pos pins s σ H Q I h => h pos pins s I⟩
theorem pt_run : PT X e (RunT X e) := ⟨fun pins s σ H Q I h => h pins s I⟩
theorem pts_run : PTs X es (RunC X es) := ⟨fun pins s σ H Q I h => h pins s I⟩
theorem RunC.of {t : TT} {Q : Bool → Hp → Prop} (h : PTs X es t) (q : t σ H Q) : RunC X es σ H Q := fun pins s I => h.run pins s σ H Q I q
theorem pi_run {tg : Expr} : PI X tg e (RunI X tg e) := ⟨fun pins s σ H R I h => h pins s I⟩
theorem po_run {o : Option Expr} : PO X o (RunO X o) := by
  cases o with
  | none => exact po_none
  | some e => exact po_some pe_run
theorem RunE.of {t : TE} {Q : VK} (h : PE X e t) (q : t σ H Q) : RunE X e σ H Q := fun pins s I => h.run pins s σ H Q I q
theorem RunA.of {t : TA} {Q : List V → Hp → Prop} (h : PA X es t) (q : t σ H Q) : RunA X es σ H Q := fun pos pins s I => h.run pos pins s σ H Q I q
theorem RunT.of {t : TT} {Q : Bool → Hp → Prop} (h : PT X e t) (q : t σ H Q) : RunT X e σ H Q := fun pins s I => h.run pins s σ H Q I q
theorem RunI.of {tg : Expr} {t : TI} {R : It → Hp → Prop} (h : PI X tg e t) (q : t σ H R) : RunI X tg e σ H R := fun pins s I => h.run pins s σ H R I q
theorem RunE.mono {Q Q' : VK} (h : RunE X e σ H Q) (f : ∀ v H', Q v H' → Q' v H') : RunE X e σ H Q' := fun pins s I => thn (h pins s I) fun _ _ ⟨v, H', I', r, q⟩ => ⟨v, H', I', r, f v H' q⟩
theorem RunA.mono {Q Q' : List V → Hp → Prop} (h : RunA X es σ H Q) (f : ∀ v H', Q v H' → Q' v H') : RunA X es σ H Q' := fun pos pins s I => thn (h pos pins s I) fun _ _ ⟨v, H', I', r, q⟩ => ⟨v, H', I', r, f v H' q⟩
theorem RunT.mono {Q Q' : Bool → Hp → Prop} (h : RunT X e σ H Q) (f : ∀ v H', Q v H' → Q' v H') : RunT X e σ H Q' := fun pins s I => thn (h pins s I) fun _ _ ⟨H', I', q⟩ => ⟨H', I', f _ H' q⟩
end

/-! ### small facts of the text -/
theorem starEach_cons {x : Expr} {xs : List Expr} {env : PySem.Env} (h : nonStar x = true) : starEach (x :: xs) env = (false, eval x env) :: starEach xs env := by
  cases x <;> first | rfl | cases h
theorem noCall_base {o : Expr} {m : Str} {env : PySem.Env} (h : noCall0 o = true) : attributeBase o m env (eval o env) = eval o env := by
  unfold attributeBase
  split
  · simp [noCall0] at h
  · rfl
theorem slice_plain {y : Expr} (h : nonSlice y = true) : PlainIx y := fun o i => by
  cases y <;> first | rfl | cases h
theorem plainTest_is {e : Expr} {env : PySem.Env} (h : plainTest e = true) : ∀ whole, isTrue e env whole = (do let v ← whole; standAt e.pos; holding [v] (truthy v)) := fun whole => by
  cases e <;> first | rfl | (simp [plainTest] at h; done) | skip
  rename_i op x p
  cases op <;> first | rfl | (simp [plainTest] at h; done)
theorem plainVal_swap {e : Expr} {t : Option Expr} {l : Nat} {env : PySem.Env} (h : plainVal e = true) : swapsWith e t l env = pure false := by
  cases e <;> first | rfl | cases h
theorem visB_ok {sc : Scope} {x : Str} (h : visB sc x = true) : Vis sc x := by
  unfold visB at h
  unfold Vis
  split at h
  · rename_i e; exact .inl e
  · rename_i e; exact .inr (.inl e)
  · rename_i e; exact .inr (.inr e)
  · cases h
theorem locB_ok {sc : Scope} {x : Str} (h : locB sc x = true) : L2.Loc sc x := by
  unfold locB at h
  unfold L2.Loc
  split at h
  · rename_i e; exact .inl e
  · rename_i e; exact .inr e
  · cases h
theorem noDbg_ok {x : Str} (h : noDbg x = true) : (x == ("__debug__" : Str)) = false := by
  unfold noDbg at h
  cases q : (x == ("__debug__" : Str)) with
  | false => rfl
  | true => rw [q] at h; cases h
theorem isBi_ok {x : Str} {b : String} (h : isBi x b = true) : bootBuiltins x = some (.builtin b) := by
  unfold isBi at h
  split at h
  · rename_i id e
    rw [e, eq_of_beq h]
  · cases h
theorem isTyN_ok {x : Str} {b : String} (h : isTyN x b = true) : bootBuiltins x = some (.type b) := by
  unfold isTyN at h
  split at h
  · rename_i id e
    rw [e, eq_of_beq h]
  · cases h
theorem callN_ok {e : Expr} {x : Str} {xs : List Expr} (h : callN e = some (x, xs)) : ∃ p q, e = .Call (.Name x p) xs [] q := by
  unfold callN at h
  split at h
  · cases h; exact ⟨_, _, rfl⟩
  · cases h
theorem ba {a b : Bool} (h : (a && b) = true) : a = true ∧ b = true := Bool.and_eq_true_iff.mp h
theorem glB_ok {g : Gb} {Γ : Sc} {k : Nat} {X : Cx} {x : Str} (c : CxG g Γ k X) (h : glB Γ.sc x = true) : Gl X x := by
  unfold glB at h
  show X.env.scope.names.lookup x = some .globalImplicit
  rw [c.sc]
  split at h
  · rename_i e; exact e
  · cases h
theorem any_star {free : Str → Bool} {Γ : Sc} {env : PySem.Env} {pos : Pos} : ∀ {ir : E} {es : List Expr}, chkEs free Γ ir es = true → (backTo pos (starEach es env)).any (·.1) = false
  | ir, [], _ => rfl
  | ir, x :: xs, h => by
    cases ir with
    | cons a r =>
      simp only [chkEs] at h
      obtain ⟨h1, h2⟩ := ba h
      obtain ⟨h0, h1⟩ := ba h1
      rw [starEach_cons h0]
      have := any_star (env := env) (pos := pos) h2
      simpa [backTo] using this
    | _ => simp [chkEs] at h

/-! ### arguments -/
section
variable {g : Gb} {st : Option StA} {H0 S HS S1 H1 S' : Hp} {r : R} {v : V}
/-- a new thing comes to stay, where others have come to stay meanwhile -/
theorem RepR.dat' {d : D} (h : RepR g st H0 S1 HS H1 r v) (s : Step st S HS S' H1) (e' : Ex S1 S') (e : r.dat = some d) : ∃ S2, Step st S HS S2 H1 ∧ Ex S' S2 ∧ Rep g S2 d v ∧ (∀ l, HS l ≠ none → S' l = none → S2 l = none) := by
  cases r with
  | val d' => cases e; exact ⟨S', s, Ex.refl _, Rep.mono e' _ v h, fun _ _ n => n⟩
  | fresh xs =>
    cases e
    obtain ⟨l, vs, rfl, h1, h2, h3, h4, h5⟩ := h
    cases q : S' l with
    | some u =>
      have := s.sub l u q
      rw [h1] at this
      cases this
      refine ⟨S', s, Ex.refl _, ?_, fun _ _ n => n⟩
      simp only [Rep]
      exact ⟨l, vs, rfl, q, Reps.mono e' xs vs h5⟩
    | none =>
      refine ⟨upd S' l (.lst vs), s.keep h3 h1 q h4, Ex.new q, ?_, fun p hp n => ?_⟩
      · simp only [Rep]
        exact ⟨l, vs, rfl, upd_same, Reps.mono (e'.trans (Ex.new q)) xs vs h5⟩
      · rw [upd_ne (fun q => hp (by rw [q]; exact h3))]; exact n
  | freshD xs =>
    cases e
    obtain ⟨l, vs, rfl, h1, h2, h3, h4, h5⟩ := h
    cases q : S' l with
    | some u =>
      have := s.sub l u q
      rw [h1] at this
      cases this
      refine ⟨S', s, Ex.refl _, ?_, fun _ _ n => n⟩
      simp only [Rep]
      exact ⟨l, vs, rfl, .inl q, RepK.mono e' xs vs h5⟩
    | none =>
      refine ⟨upd S' l (.dK vs), s.keep h3 h1 q h4, Ex.new q, ?_, fun p hp n => ?_⟩
      · simp only [Rep]
        exact ⟨l, vs, rfl, .inl upd_same, RepK.mono (e'.trans (Ex.new q)) xs vs h5⟩
      · rw [upd_ne (fun q => hp (by rw [q]; exact h3))]; exact n
  | brw _ _ => cases e
  | brwD _ _ => cases e
  | stt => cases e
theorem ArgR.ext {k : Kd} (h : ArgR g st S1 H1 k r v) (e : Ex S1 S') : ArgR g st S' H1 k r v := by
  cases k <;> cases r <;> simp only [ArgR] at h ⊢
  · exact Rep.mono e _ _ h
  · obtain ⟨h0, l, vs, h1, h2, h3, h4⟩ := h; exact ⟨h0, l, vs, h1, h2, h3, Reps.mono e _ _ h4⟩
  · obtain ⟨h0, l, vs, h1, h2, h3, h4⟩ := h; exact ⟨h0, l, vs, h1, h2, h3, RepK.mono e _ _ h4⟩
  · exact h
  · exact Rep.mono e _ _ h
  · obtain ⟨h0, l, vs, h1, h2, h3, h4⟩ := h; exact ⟨h0, l, vs, h1, h2, h3, Reps.mono e _ _ h4⟩
theorem notSt {l : Addr} {u : HO} (o : Ok st S1 H1) (h : S1 l = some u) : ¬ isSt st l := fun k => by
  cases st with
  | none => exact k
  | some t =>
    obtain ⟨gs, cs, r, n, _, _, _, h4, h5⟩ := o.st
    rcases k with k | k
    · rw [k, h4] at h; cases h
    · rw [k, h5] at h; cases h
theorem arg_ok {k : Kd} {a : R} (h : RepR g st H0 S1 HS H1 r v) (s : Step st S HS S' H1) (o1 : Ok st S1 H1) (e' : Ex S1 S') (e : r.as k = some a) : ∃ S2, Step st S HS S2 H1 ∧ Ex S' S2 ∧ ArgR g st S2 H1 k a v ∧ (∀ l, HS l ≠ none → S' l = none → S2 l = none) := by
  cases k with
  | v =>
    simp only [R.as] at e
    split at e
    · rename_i d e1
      cases e
      obtain ⟨S2, a1, a2, a3, a4⟩ := h.dat' s e' e1
      exact ⟨S2, a1, a2, a3, a4⟩
    · cases e
  | b =>
    simp only [R.as] at e
    split at e
    · rename_i xs e1
      cases e
      refine ⟨S', s, Ex.refl _, ⟨rfl, ?_⟩, fun _ _ n => n⟩
      cases r with
      | val d =>
        cases d with
        | lst ys =>
          cases e1
          simp only [RepR, Rep] at h
          obtain ⟨a, vs, h1, h2, h3⟩ := h
          exact ⟨a, vs, h1, s.sub _ _ (e' _ _ h2), notSt o1 h2, Reps.mono e' _ _ h3⟩
        | _ => cases e1
      | fresh ys =>
        cases e1
        obtain ⟨l, vs, h1, h2, h3, h4, h5, h6⟩ := h
        exact ⟨l, vs, h1, h2, h5, Reps.mono e' _ _ h6⟩
      | brw _ ys =>
        cases e1
        obtain ⟨l, vs, h1, h2, h5, _, h6⟩ := h
        exact ⟨l, vs, h1, h2, h5, Reps.mono e' _ _ h6⟩
      | _ => cases e1
    · cases e
  | bD =>
    cases r with
    | freshD ys =>
      cases e
      obtain ⟨l, vs, h1, h2, h3, h4, h5, h6⟩ := h
      exact ⟨S', s, Ex.refl _, ⟨rfl, l, vs, h1, h2, h5, RepK.mono e' _ _ h6⟩, fun _ _ n => n⟩
    | brwD _ ys =>
      cases e
      obtain ⟨l, vs, h1, h2, h5, _, h6⟩ := h
      exact ⟨S', s, Ex.refl _, ⟨rfl, l, vs, h1, h2, h5, RepK.mono e' _ _ h6⟩, fun _ _ n => n⟩
    | _ => simp [R.as] at e
  | s =>
    cases r with
    | stt => cases e; exact ⟨S', s, Ex.refl _, h, fun _ _ n => n⟩
    | _ => simp [R.as] at e
  | a =>
    have dt : ∀ {r : R}, RepR g st H0 S1 HS H1 r v → (match r.dat with | some d => some (R.val d) | none => none) = some a → ∃ S2, Step st S HS S2 H1 ∧ Ex S' S2 ∧ ArgR g st S2 H1 .a a v ∧ (∀ l, HS l ≠ none → S' l = none → S2 l = none) := by
      intro r h e
      split at e
      · rename_i d e1
        cases e
        obtain ⟨S2, a1, a2, a3, a4⟩ := h.dat' s e' e1
        exact ⟨S2, a1, a2, a3, a4⟩
      · cases e
    cases r with
    | brw _ ys =>
      cases e
      obtain ⟨l, vs, h1, h2, h5, _, h6⟩ := h
      exact ⟨S', s, Ex.refl _, ⟨rfl, l, vs, h1, h2, h5, Reps.mono e' _ _ h6⟩, fun _ _ n => n⟩
    | val d => exact dt h e
    | fresh d => exact dt h e
    | freshD d => exact dt h e
    | brwD o d => exact dt h e
    | stt => exact dt h e
theorem args_ok : ∀ {ks : List Kd} {rs l : List R} {vs : List V} {S' : Hp}, RepRs g st H0 S1 HS H1 rs vs → Step st S HS S' H1 → Ok st S1 H1 → Ex S1 S' → asAll ks rs = some l →
    ∃ S2, Step st S HS S2 H1 ∧ Ex S' S2 ∧ ArgsR g st S2 H1 ks l vs ∧ (∀ l, HS l ≠ none → S' l = none → S2 l = none)
  | ks, [], l, vs, S', h, s, o1, e', e => by
    cases h
    have : l = [] := by cases ks <;> (simp [asAll] at e; first | exact e | exact e.symm)
    subst this
    exact ⟨S', s, Ex.refl _, .nil _, fun _ _ n => n⟩
  | [], _ :: _, l, vs, S', h, s, o1, e', e => by simp [asAll] at e
  | k :: ks, r :: rs, l, vs, S', h, s, o1, e', e => by
    cases h with
    | cons a b =>
      simp only [asAll] at e
      split at e
      · rename_i x l' e1 e2
        cases e
        obtain ⟨S2, a1, a2, a3, a4⟩ := arg_ok a s o1 e' e1
        obtain ⟨S3, b1, b2, b3, b4⟩ := args_ok (S' := S2) b a1 o1 (e'.trans a2) e2
        exact ⟨S3, b1, a2.trans b2, .cons (a3.ext b2) b3, fun p hp n => b4 p hp (a4 p hp n)⟩
      · cases e
end
end Dl

set_option Elab.async false
set_option linter.all false
set_option maxRecDepth 100000
set_option maxHeartbeats 4000000
/-! Dl: expressions keep what wE says. -/
namespace Dl
open PySem PySem.Spec PyProof.Rows L2

/-- st: the draws so far; sx: what the frame may do at most -/
structure Hyp (g : Gb) (C : Ct) (Γ : Sc) (k : Nat) (X : Cx) (st sx : Option StA) (S0 H0 S H : Hp) (σ : L2.St) (δ : List Sl) (ex : XD → Prop) : Prop where
  ct : CtOk g C k
  cx : CxG g Γ k X
  tk : Takes X (WishX g sx S0 H0 ex)
  fr : Step st S0 H0 S H
  env : Dl.Env g st H0 S H δ σ
  lm : Lim sx
def Fit (st sx : Option StA) (c : Nat) : Prop := ∃ c', sx = up st (c + c')
theorem Fit.l {st sx : Option StA} {a b : Nat} (h : Fit st sx (a + b)) : Fit st sx a := let ⟨c, e⟩ := h; ⟨b + c, by rw [e, Nat.add_assoc]⟩
theorem Fit.r {st sx : Option StA} {a b : Nat} (h : Fit st sx (a + b)) : Fit (up st a) sx b := let ⟨c, e⟩ := h; ⟨c, by rw [e, up_up, Nat.add_assoc]⟩
theorem Fit.le {st sx : Option StA} {a b : Nat} (h : Fit st sx b) (l : a ≤ b) : Fit st sx a := let ⟨c, e⟩ := h; ⟨b - a + c, by rw [e]; congr 1; omega⟩
theorem Fit.lim {st sx : Option StA} {a : Nat} (h : Fit st sx a) (l : Lim sx) : Lim (up st a) := by
  obtain ⟨c, rfl⟩ := h
  cases st with
  | none => trivial
  | some t => exact Nat.le_trans (show t.lim + a ≤ t.lim + (a + c) by omega) l
theorem Fit.eq {st sx : Option StA} {a : Nat} (h : Fit st sx a) : ∃ c', sx = up (up st a) c' := let ⟨c, e⟩ := h; ⟨c, by rw [e, up_up]⟩
def PostA (g : Gb) (st : Option StA) (H0 S H : Hp) (P : List R → Prop) : List V → Hp → Prop := fun vs H' => ∃ S' rs, Step st S H S' H' ∧ RepRs g st H0 S' H H' rs vs ∧ P rs
def PostT (st : Option StA) (S H : Hp) (P : Bool → Prop) : Bool → Hp → Prop := fun b H' => ∃ S', Step st S H S' H' ∧ P b
def PostO (st : Option StA) (S H : Hp) (P : Option Int → Prop) : Option Int → Hp → Prop := fun b H' => ∃ S', Step st S H S' H' ∧ P b
/-- J walks xs, as long as what stays stays (and a list that somebody lent, or owns) -/
def WalkD (g : Gb) (st : Option StA) (H0 : Hp) (o : Bool) (S H : Hp) (J : It) (xs : List D) : Prop := ∃ (G : Hp → Prop) (Y : Nat → Hp → V → Hp → Prop), L2.Walk J xs.length G Y ∧
  (∀ S' H', Ex S S' → Ex S' H' → (∀ l u, H l = some u → S l = none → ¬ isSt st l → (o = true ∨ H0 l ≠ none) → H' l = some u) → G H') ∧
  ∀ (st' : Option StA) i S1 H1 v H2, Ok st' S1 H1 → Ex S S1 → Y i H1 v H2 → i < xs.length → ∃ S2 d, Step st' S1 H1 S2 H2 ∧ xs[i]? = some d ∧ Rep g S2 d v
def PostI (g : Gb) (st : Option StA) (H0 S H : Hp) (P : Bool → List D → Prop) : It → Hp → Prop := fun J H' => ∃ S' o xs, Step st S H S' H' ∧ P o xs ∧ WalkD g st H0 o S' H' J xs

section
variable {g : Gb} {C : Ct} {Γ : Sc} {k : Nat} {X : Cx} {st sx : Option StA} {S0 H0 S H S1 H1 H' : Hp} {σ : L2.St} {δ : List Sl} {ex : XD → Prop} {P : R → Prop} {v x y : V}
theorem Hyp.o (h : Hyp g C Γ k X st sx S0 H0 S H σ δ ex) : Ok st S H := h.fr.ok
theorem Hyp.next {c : Nat} (h : Hyp g C Γ k X st sx S0 H0 S H σ δ ex) (s : Step (up st c) S H S1 H1) : Hyp g C Γ k X (up st c) sx S0 H0 S1 H1 σ δ ex := ⟨h.ct, h.cx, h.tk, h.fr.tr s, h.env.stp h.o s, h.lm⟩
theorem Post.tr {a b : Nat} (o : Ok st S H) (s : Step (Dl.up st a) S H S1 H1) (h : Post g (Dl.up (Dl.up st a) b) H0 S1 H1 P v H') : Post g (Dl.up st (a + b)) H0 S H P v H' := by
  rw [← up_up]
  exact Post.up o.up.up s.up h
theorem Post.le {a b : Nat} (h : Post g (Dl.up st a) H0 S H P v H') (l : a ≤ b) : Post g (Dl.up st b) H0 S H P v H' := by
  obtain ⟨S', r, s', h1, h2⟩ := h
  exact ⟨S', r, s'.le l, h1.le l, h2⟩
theorem Post.c2 {a b : Nat} (h : Post g (Dl.up (Dl.up st a) b) H0 S H P v H') : Post g (Dl.up st (a + b)) H0 S H P v H' := by rw [← up_up]; exact h
theorem Post.c3 {a b c : Nat} (h : Post g (Dl.up (Dl.up (Dl.up st a) b) c) H0 S H P v H') : Post g (Dl.up st (a + b + c)) H0 S H P v H' := by rw [← up_up, ← up_up]; exact h
theorem Post.z (h : Post g st H0 S H P v H') : Post g (Dl.up st 0) H0 S H P v H' := by rw [up_zero]; exact h
theorem Step.c2 {a b : Nat} {S2 H2 : Hp} (h : Step (Dl.up (Dl.up st a) b) S H S2 H2) : Step (Dl.up st (a + b)) S H S2 H2 := by rw [← up_up]; exact h
theorem Step.c3 {a b c : Nat} {S2 H2 : Hp} (h : Step (Dl.up (Dl.up (Dl.up st a) b) c) S H S2 H2) : Step (Dl.up st (a + b + c)) S H S2 H2 := by rw [← up_up, ← up_up]; exact h
theorem RepR.c2 {a b : Nat} {HS : Hp} {r : R} (h : RepR g (Dl.up (Dl.up st a) b) H0 S HS H r v) : RepR g (Dl.up st (a + b)) H0 S HS H r v := by rw [← up_up]; exact h
theorem Fit.r3 {st sx : Option StA} {a b c : Nat} (h : Fit st sx (a + b + c)) : Fit (Dl.up (Dl.up st a) b) sx c := let ⟨z, e⟩ := h; ⟨z, by rw [e, up_up, up_up]; congr 1; omega⟩
theorem opW.mono {f : Value → Value → Sem Value} {Q Q' : VK} (h : opW X f x y H Q) (q : ∀ v H', Q v H' → Q' v H') : opW X f x y H Q' := fun pins s σ v u I rx ry => thn (h pins s σ v u I rx ry) fun _ _ ⟨v, H', I', r, z⟩ => ⟨v, H', I', r, q _ _ z⟩
theorem ixW.mono {Q Q' : VK} (h : ixW X x y H Q) (q : ∀ v H', Q v H' → Q' v H') : ixW X x y H Q' := fun a b pins s σ v u I rx ry e => thn (h a b pins s σ v u I rx ry e) fun _ _ ⟨v, H', I', r, z⟩ => ⟨v, H', I', r, q _ _ z⟩
theorem callW.mono {f : Value} {vs : List V} {Q Q' : VK} (h : callW X f vs H Q) (q : ∀ v H', Q v H' → Q' v H') : callW X f vs H Q' := fun pins s σ us I r => thn (h pins s σ us I r) fun _ _ ⟨v, H', I', r, z⟩ => ⟨v, H', I', r, q _ _ z⟩

/-- a name -/
theorem var_ok {i : Nat} {r : R} (h : Dl.Env g st H0 S H δ σ) (o : Ok st S H) (hl : Step st S0 H0 S H) (e : readSl δ[i]? = some r) (p : P r) : ∃ v, σ[i]? = some (some v) ∧ Post g st H0 S H P v H := by
  obtain ⟨_, L, h1, _⟩ := h
  cases q : δ[i]? with
  | none => rw [q] at e; cases e
  | some s =>
    rw [q] at e
    have z := h1 i s q
    cases s with
    | non => cases e
    | val d => cases e; obtain ⟨v, e1, e2⟩ := z; exact ⟨v, e1, Post.val o e2 p⟩
    | own xs =>
      cases e
      obtain ⟨vs, e1, e2, e3, e4, e5, e6⟩ := z
      exact ⟨_, e1, Post.pure o (r := .brw true xs) ⟨_, vs, rfl, e2, e5, fun q => (Bool.noConfusion q), e6⟩ p⟩
    | ownD xs =>
      cases e
      obtain ⟨vs, e1, e2, e3, e4, e5, e6⟩ := z
      exact ⟨_, e1, Post.pure o (r := .brwD true xs) ⟨_, vs, rfl, e2, e5, fun q => (Bool.noConfusion q), e6⟩ p⟩
    | bor xs =>
      cases e
      obtain ⟨vs, e1, e2, e3, e5, e6⟩ := z
      exact ⟨_, e1, Post.pure o (r := .brw false xs) ⟨_, vs, rfl, e2, e5, fun _ _ => e3, e6⟩ p⟩
    | borD xs =>
      cases e
      obtain ⟨vs, e1, e2, e3, e5, e6⟩ := z
      exact ⟨_, e1, Post.pure o (r := .brwD false xs) ⟨_, vs, rfl, e2, e5, fun _ _ => e3, e6⟩ p⟩
    | stt => cases e; obtain ⟨t, e1, e2⟩ := z; exact ⟨_, e2, Post.pure o (r := .stt) ⟨t, e1, rfl⟩ p⟩
    | ownO _ _ _ _ => cases e

theorem RepR.h0 {Ha Hb HS : Hp} {r : R} (h : RepR g st Ha S HS H r v) (e : r.out = true) : RepR g st Hb S HS H r v := by
  cases r <;> first | exact h | cases e
/-- a def is called; a: the draws of its arguments -/
theorem call_sp {f : FS} {rs : List R} {vs : List V} {Hs Ss : Hp} {a b : Nat} (o : Ok st Ss Hs) (fr : Step st S0 H0 Ss Hs) (s : Step (up st a) Ss Hs S H) (h : RepRs g (up st a) H0 S Hs H rs vs) (ft : Fit st sx (a + b)) (lm : Lim sx) (w : wCall f rs (fun r => r.out = true ∧ P r) ex) :
    spOf g f b vs H (Post g (up st (a + b)) H0 Ss Hs P) (XPost g sx S0 H0 ex) := by
  unfold wCall at w
  split at w
  · rename_i l e
    obtain ⟨S2, a1, a2, a3, a4⟩ := args_ok h s s.ok (Ex.refl _) e
    obtain ⟨c', hc'⟩ := ft.eq
    refine ⟨up st a, S2, l, a1.ok, by rw [up_up]; exact ft.lim lm, a3, f.mono _ _ _ _ _ (fun r ⟨h1, h2⟩ => ⟨h1, fun v H' S' s' r' => ?_⟩) (fun x hx cls d H' S' s' r' => ⟨x, S', ?_, r', hx⟩) w⟩
    · rw [hc', ← up_up]
      exact ((fr.tr a1).tr s').up
    · rw [← up_up]
      exact ⟨S', r, a1.tr s', (r'.since fun l e => Step.back o.up a1 e).h0 h1, h2⟩
  · exact w.elim
theorem pe_callR0 {CX : CXT} {n : Nat} {f : Addr} {sp : Sp} {EX : XK} {x : Str} {p pos : Pos} (F : FnR X.prog X.w X.K X.mg X.base CX n f sp) (hr : Room n X.A) (hg : Gl X x) (hm : X.mg x = some (.ref f)) (hk : PySem.W.keepIn X.K (.ref f) = true)
    (hx : Passes CX X EX) (hdb : (x == ("__debug__" : Str)) = false) : PE X (.Call (.Name x p) [] [] pos) (fun σ H Q => sp [] H Q EX) := by
  refine ⟨fun pins s σ H Q I h => ?_⟩
  refine wpAny_Call_Name_kw (ld_glob I hg hm ?_ hdb)
  exact PySem.W.callWith_K0 I.kIn hk (wpAny_call (run_fnR F hr hx I .nil h))
theorem pe_callR {CX : CXT} {n : Nat} {f : Addr} {sp : Sp} {EX : XK} {x : Str} {p pos : Pos} {e : Expr} {es : List Expr} {t : TA} {free : Str → Bool} {ir : E} (F : FnR X.prog X.w X.K X.mg X.base CX n f sp) (hr : Room n X.A) (hg : Gl X x) (hm : X.mg x = some (.ref f)) (hk : PySem.W.keepIn X.K (.ref f) = true)
    (hx : Passes CX X EX) (ha : PA X (e :: es) t) (hdb : (x == ("__debug__" : Str)) = false) (h0 : nonStar e = true) (hc : chkEs free Γ ir es = true) : PE X (.Call (.Name x p) (e :: es) [] pos) (fun σ H Q => t σ H fun vs H1 => sp vs H1 Q EX) := by
  refine ⟨fun pins s σ H Q I h => ?_⟩
  refine wpAny_Call_Name_kw (ld_glob I hg hm ?_ hdb)
  refine PySem.W.callWith_K (h₀ := X.base) I.ok.mod.kin hk (thn (ha.run pos pins s σ H _ I h) fun us s1 ⟨vs, H1, I1, r, q⟩ => ⟨I1.kIn, ?_⟩) (starEach_cons h0) (any_star hc)
  exact wpAny_call (run_fnR F hr hx I1 r q)
/-- o.m(..) on one line -/
theorem meth_line {o : Expr} {m : Str} {apos pos : Pos} {env : PySem.Env} {es : List Expr} (hb : attributeBase o m env (eval o env) = eval o env) (hl : (apos.endLine == pos.line) = true) (hf : methodCallForm (es.length + 0) (backTo pos (starEach es env)) [] = true) :
    eval (.Call (.Attribute o m apos) es [] pos) env = (do
      let ov ← eval o env
      standAt apos.atName
      let (f, first) ← holding [ov] (getMethod ov m (do return (← importBound o env).getD true))
      callWith pos f first (backTo pos (starEach es env)) (backToKw pos (keywordEach [] env))) := by
  rw [arm_eval_Call, hb]
  unfold methodCall
  have e0 : backToKw pos (keywordEach [] env) = [] := rfl
  have e3 : es.length + ([] : List Keyword).length = es.length + 0 := rfl
  rw [e0, e3, hf]
  have e1 : methodCallPos true o env apos pos = pure pos := by
    unfold methodCallPos
    rw [if_pos (by rw [hl]; rfl)]
  rw [e1]
  first
    | rfl
    | (simp only [pure_bind, calleeOf, if_pos]; done)
    | simp only [pure_bind, calleeOf, if_true]
theorem form_ok {free : Str → Bool} {ir : E} {es : List Expr} {env : PySem.Env} {pos : Pos} (hc : chkEs free Γ ir es = true) (hl : es.length < 30) : methodCallForm (es.length + 0) (backTo pos (starEach es env)) [] = true := by
  have h1 := any_star (env := env) (pos := pos) hc
  unfold methodCallForm
  have h2 : (backTo pos (starEach es env)).all (fun x => !x.1) = true := by
    rw [List.all_eq_true]
    intro x hx
    cases q : x.1 with
    | false => rfl
    | true =>
      have : (backTo pos (starEach es env)).any (·.1) = true := List.any_eq_true.mpr ⟨x, hx, q⟩
      rw [h1] at this
      cases this
  rw [h2]
  simp
  omega
theorem pe_methC {CX : CXT} {n : Nat} {c f : Addr} {m : Str} {sp : Sp} {EX : XK} {o : Expr} {e : Expr} {es : List Expr} {ta : TE} {t : TA} {apos pos : Pos} {free : Str → Bool} {ir : E} (he : PE X o ta) (cl : Cls X.K c) (hm : Meth X.K c m f)
    (F : FnR X.prog X.w X.K X.mg X.base CX n f sp) (hr : Room n X.A) (hx : Passes CX X EX) (ha : PA X (e :: es) t) (hb : noCall0 o = true) (hl : (apos.endLine == pos.line) = true) (hc : chkEs free Γ ir (e :: es) = true) (hz : (e :: es).length < 30) :
    PE X (.Call (.Attribute o m apos) (e :: es) [] pos) (tMethR c m sp EX ta t) := by
  have hc2 : nonStar e = true ∧ ∃ r, chkEs free Γ r es = true := by
    cases ir with
    | cons a r =>
      simp only [chkEs] at hc
      obtain ⟨h1, h2⟩ := Dl.ba hc
      exact ⟨(Dl.ba h1).1, r, h2⟩
    | _ => simp [chkEs] at hc
  obtain ⟨h0, r, h2⟩ := hc2
  exact pe_methR he cl hm F hr hx ha (starEach_cons h0) (any_star h2) (meth_line (noCall_base hb) hl (form_ok hc hz))
theorem pe_methC0 {CX : CXT} {n : Nat} {c f : Addr} {m : Str} {sp : Sp} {EX : XK} {o : Expr} {ta : TE} {apos pos : Pos} (he : PE X o ta) (cl : Cls X.K c) (hm : Meth X.K c m f)
    (F : FnR X.prog X.w X.K X.mg X.base CX n f sp) (hr : Room n X.A) (hx : Passes CX X EX) (hb : noCall0 o = true) (hl : (apos.endLine == pos.line) = true) :
    PE X (.Call (.Attribute o m apos) [] [] pos) (tMethR c m sp EX ta tNil) := by
  refine ⟨fun pins s σ H Q I h => ?_⟩
  refine PySem.W.methodCall_KW (thn (he.run pins s σ H _ I h) fun u s1 ⟨x, H1, I1, rx, a, dx, fs, ex, ea, l, q⟩ => ?_) (meth_line (noCall_base hb) hl rfl)
  subst ex
  obtain rfl : u = Value.ref a := rx
  refine getmeth_ok I1 ea cl hm l ?_
  exact PySem.W.callWith_K0 (first := [.ref a]) I1.kIn hm.kp (wpAny_call (run_fnR (us := [.ref a]) (vs := [.ref a]) F hr hx I1 (.cons rfl .nil) q))
end
end Dl

set_option Elab.async false
set_option linter.all false
set_option maxRecDepth 100000
set_option maxHeartbeats 4000000
/-! Dl: operators on own instances. -/
namespace Dl
section
open PySem PySem.Spec PySem.W PyProof.Rows
variable {prog : Program} {w : World} {A : Around} {E : Value → Shared → Prop} {s : Shared} {K : Frag} {x y C L f : Addr} {h₀ : Heap} {m : Str → Option Value} {ox : Obj} {od : Option Obj} {name : Str}
theorem ifBound_B {M : Model} {id : String} {args : List Value} {Q : Option Value → Shared → Prop} (X : K.In s.heap) (I : InstAt s.heap x ox C od) (hs : findIn K (.ref C) name = some (some (.builtin id))) (hb : ∀ self, bindSpecial (.builtin id) self = pure (.builtin id, [self]))
    (h : wpAny M A (call (.builtin id) (.ref x :: args)) (fun v => Q (some v)) E s) : wpAny M A (callSpecialIfBound? (.ref x) name args) Q E s := by
  simp only [callSpecialIfBound?, bindSpecialIfBound?]
  refine wpAny_holding (wpAny_bind (wpAny_bind (wpAny_bind (I.type.here ((looks_findIn X hs).here ?_)))))
  refine wpAny_bind (wpAny_askSetting (wpAny_ite ?_))
  simp only [hb]
  have fin : wpAny M A (call (.builtin id) ([.ref x] ++ args) >>= fun v => pure (some v)) Q E s := wpAny_bind (wpAny_mono h (fun v s' h' => wpAny_pure h') fun _ _ h' => h')
  split
  · exact wpAny_bind (wpAny_pure (wpAny_pure fin))
  · exact wpAny_tryCatch (wpAny_bind (wpAny_pure (wpAny_pure fin)))
theorem ne_K {Q : Value → Shared → Prop} (hu : A.units + 1 < cLine) (FF : Fr h₀ L s.heap m) (X₀ : K.In h₀) (I : InstAt s.heap x ox C od) (hb : Looks (model prog w) s.heap (typeOf (.ref y)) (.ref C))
    (hn : findIn K (.ref C) "__ne__" = some (some (.builtin "object.__ne__"))) (hm : mroIn K C (.type "object") = some true)
    (hs : findIn K (.ref C) "__eq__" = some (some (.ref f))) (hf : isFn K (.ref f) = true)
    (h : wpAny (model prog w) A.in1 (call (.ref f) [.ref x, .ref y]) (fun v s' => ∃ b, v = .bool b ∧ Q (.bool (!b)) s') E s) : wpAny (model prog w) A (richCompare .NotEq (.ref x) (.ref y)) Q E s := by
  have X := X₀.keeps FF.keep
  have one : wpAny (model prog w) A (tryCompare (.ref x) "__ne__" (.ref y)) (fun r s' => ∃ v, r = some v ∧ Q v s') E s := by
    unfold tryCompare
    refine wpAny_bind (ifBound_B X I hn PySem.F.cmp_object.ne.bind (wpAny_call (codeAny_call_builtin PySem.F.cmp_object.ne.plain PySem.F.cmpEntry_ne
      (check_slot PySem.F.cmpKind_ne PySem.F.cmpSplit_ne ?_ (PySem.F.cmpArgs_ne _ _) ?_))))
    · exact I.type.andThen (looks_mroIn X hm)
    · have hu1 : A.in1.units < cLine := hu
      unfold Builtin.«object.__ne__»
      repeat (first
        | with_reducible refine wpAny_cRoomFor hu1 ?_
        | (refine wpAny_bind (m := callSpecialIfBound? (.ref x) (Str.ofString "__eq__") [.ref y])
            (ifBound_K X I hs hf (wpAny_mono h (fun r s' hr => by
              obtain ⟨b, rfl, hq⟩ := hr
              repeat (first | exact wpAny_pure ⟨_, rfl, hq⟩ | exact ⟨_, rfl, hq⟩ | exact wpAny_truthy_bool hq | (refine wpAny_bind (m := truthy (.bool _)) (wpAny_truthy_bool ?_)) | wp_step)) fun _ _ e => e)))
        | wp_step)
  unfold richCompare
  simp only [oneThing_ref]
  refine wpAny_holding (wpAny_bind (wpAny_cRoomFor (Nat.lt_of_succ_lt hu) ?_))
  rw [cmpInfo_NotEq]
  refine wpAny_bind (I.type.here (wpAny_bind (hb.here ?_)))
  rw [show (Value.ref C != Value.ref C) = false from by simp]
  simp only [Bool.false_eq_true, if_false]
  refine wpAny_bind (wpAny_pure ?_)
  simp only [Bool.false_eq_true, if_false]
  refine wpAny_bind (wpAny_mono one (fun r s' z => ?_) fun _ _ e => e)
  obtain ⟨v, rfl, hq⟩ := z
  exact wpAny_pure hq
end
end Dl
namespace Dl
open PySem PySem.Spec PyProof.Rows L2
section
variable {X : Cx} {CX : CXT} {n : Nat} {C f : Addr} {sp : Sp} {EX : XK}
theorem rel_ni {v : V} {u : Value} (h : RelV v u) : u ≠ .notImplemented := by
  rintro rfl
  cases v <;> first | (cases h; done) | (obtain ⟨_, h⟩ := h; cases h)
theorem cmp_back {Q : Value → Shared → Prop} {u : Value} {s : Shared} (h : u ≠ .notImplemented) (q : Q u s) : PySem.W.CmpBack Q u s := by
  unfold PySem.W.CmpBack
  split
  · exact h rfl
  · exact q
/-- a comparison by the left one's own method; the right one: an own instance that is not of a narrower class -/
theorem op_ownCmp {op : CmpOp} (hop : compareOp op = richCompare op) (F : FnR X.prog X.w X.K X.mg X.base CX n f sp) (hr : Room n X.A) (hx : Passes CX X EX) (hs : PySem.W.findIn X.K (.ref C) (cmpInfo op).2.1 = some (some (.ref f))) (hf : PySem.W.isFn X.K (.ref f) = true) :
    OpR X (compareOp op) (fun x y H Q => ∃ a b dx dy fs gs, x = .ref a ∧ y = .ref b ∧ H a = some (.ins C dx fs) ∧ H b = some (.ins C dy gs) ∧ sp [x, y] H Q EX) := by
  intro pins s σ H x y v u Q I rx ry ⟨a, b, dx, dy, fs, gs, ex, ey, ha, hb, h⟩
  subst ex ey
  obtain rfl : v = Value.ref a := rx
  obtain rfl : u = Value.ref b := ry
  rw [hop]
  obtain ⟨mA, J, _⟩ := ins_get I.hok ha
  obtain ⟨mB, J', _⟩ := ins_get I.hok hb
  obtain ⟨od, J, _⟩ := J.look
  obtain ⟨od', J', _⟩ := J'.look
  obtain ⟨m, hF⟩ := I.fr
  refine PySem.W.cmp_K (op := op) (tb := .ref C) hr.units0 hF I.ok.mod.kin J J'.type (by simp [PySem.W.notFirst]) hs hf ?_
  refine thn (wpAny_call (run_fnR (us := [.ref a, .ref b]) (vs := [.ref a, .ref b]) F hr hx I (.cons rfl (.cons rfl .nil)) h)) fun w s' ⟨z, H', I', rz, q⟩ => ?_
  exact cmp_back (rel_ni rz) ⟨z, H', I', rz, q⟩
/-- a comparison with a tuple by the left one's own method -/
theorem op_ownCmpT {op : CmpOp} (hop : compareOp op = richCompare op) (F : FnR X.prog X.w X.K X.mg X.base CX n f sp) (hr : Room n X.A) (hx : Passes CX X EX) (hs : PySem.W.findIn X.K (.ref C) (cmpInfo op).2.1 = some (some (.ref f))) (hf : PySem.W.isFn X.K (.ref f) = true) :
    OpR X (compareOp op) (fun x y H Q => ∃ a b dx fs ys, x = .ref a ∧ y = .ref b ∧ H a = some (.ins C dx fs) ∧ SqT X.K H b ys ∧ sp [x, y] H Q EX) := by
  intro pins s σ H x y v u Q I rx ry ⟨a, b, dx, fs, ys, ex, ey, ha, hb, h⟩
  subst ex ey
  obtain rfl : v = Value.ref a := rx
  obtain rfl : u = Value.ref b := ry
  rw [hop]
  obtain ⟨mA, J, _⟩ := ins_get I.hok ha
  obtain ⟨od, J, _⟩ := J.look
  obtain ⟨its, _, ⟨o, ho, hc, _⟩, _⟩ := I.tuple hb
  obtain ⟨m, hF⟩ := I.fr
  have ty : PySem.W.Looks (model X.prog X.w) s.heap (typeOf (.ref b)) (.type "tuple") := fun A Q E s k q => wpAny_typeOf_ref (k _ _ ho) (by rw [hc]; exact q)
  have nf : PySem.W.notFirst X.K C (.type "tuple") = true := by
    have e : PySem.W.subIn X.K (.type "tuple") (.ref C) = some false := by
      have e0 : PySem.fastBuiltinMro "tuple" = some [.type "tuple", .type "object"] := by decide +kernel
      simp only [PySem.W.subIn, e0]
      rfl
    simp [PySem.W.notFirst, e]
  refine PySem.W.cmp_K (op := op) hr.units0 hF I.ok.mod.kin J ty nf hs hf ?_
  refine thn (wpAny_call (run_fnR (us := [.ref a, .ref b]) (vs := [.ref a, .ref b]) F hr hx I (.cons rfl (.cons rfl .nil)) h)) fun w s' ⟨z, H', I', rz, q⟩ => ?_
  exact cmp_back (rel_ni rz) ⟨z, H', I', rz, q⟩
/-- a binary operator by the left one's own method, both of one class -/
theorem op_ownBin {op : Operator} (F : FnR X.prog X.w X.K X.mg X.base CX n f sp) (hr : Room n X.A) (hx : Passes CX X EX) (hc : PySem.W.selfFirst X.K C = true) (hs : PySem.W.findIn X.K (.ref C) (PySem.dunder op.info.2) = some (some (.ref f))) (hf : PySem.W.isFn X.K (.ref f) = true) :
    OpR X (binaryOp op) (fun x y H Q => ∃ a b dx dy fs gs, x = .ref a ∧ y = .ref b ∧ H a = some (.ins C dx fs) ∧ H b = some (.ins C dy gs) ∧ sp [x, y] H Q EX) := by
  intro pins s σ H x y v u Q I rx ry ⟨a, b, dx, dy, fs, gs, ex, ey, ha, hb', h⟩
  subst ex ey
  obtain rfl : v = Value.ref a := rx
  obtain rfl : u = Value.ref b := ry
  obtain ⟨mA, J, _⟩ := ins_get I.hok ha
  obtain ⟨mB, J', _⟩ := ins_get I.hok hb'
  obtain ⟨od, J, _⟩ := J.look
  obtain ⟨od', J', _⟩ := J'.look
  obtain ⟨m, hF⟩ := I.fr
  refine PySem.W.binop_K hF I.ok.mod.kin J J'.type hc hs hf (thn (wpAny_call (run_fnR (us := [.ref a, .ref b]) (vs := [.ref a, .ref b]) F hr hx I (.cons rfl (.cons rfl .nil)) h)) fun w s' ⟨z, H', I', rz, q⟩ => ?_)
  exact cmp_back (rel_ni rz) ⟨z, H', I', rz, q⟩
theorem op_ownNe (F : FnR X.prog X.w X.K X.mg X.base CX n f sp) (hr : Room (n + 1) X.A) (hx : Passes CX X EX) (hn : PySem.W.findIn X.K (.ref C) "__ne__" = some (some (.builtin "object.__ne__"))) (hm : PySem.W.mroIn X.K C (.type "object") = some true)
    (hs : PySem.W.findIn X.K (.ref C) "__eq__" = some (some (.ref f))) (hf : PySem.W.isFn X.K (.ref f) = true) :
    OpR X (compareOp .NotEq) (fun x y H Q => ∃ a b dx dy fs gs, x = .ref a ∧ y = .ref b ∧ H a = some (.ins C dx fs) ∧ H b = some (.ins C dy gs) ∧ sp [x, y] H (fun v H' => ∃ c, v = .bl c ∧ Q (.bl (!c)) H') EX) := by
  intro pins s σ H x y v u Q I rx ry ⟨a, b, dx, dy, fs, gs, ex, ey, ha, hb, h⟩
  subst ex ey
  obtain rfl : v = Value.ref a := rx
  obtain rfl : u = Value.ref b := ry
  show wpAny _ _ (richCompare .NotEq _ _) _ _ _
  obtain ⟨mA, J, _⟩ := ins_get I.hok ha
  obtain ⟨mB, J', _⟩ := ins_get I.hok hb
  obtain ⟨od, J, _⟩ := J.look
  obtain ⟨od', J', _⟩ := J'.look
  obtain ⟨m, hF⟩ := I.fr
  refine ne_K (by have := hr.un; omega) hF I.ok.mod.kin J J'.type hn hm hs hf (wpAny_call ?_)
  refine codeAny_mono (F X.A.in1 X.stack s H [.ref a, .ref b] [.ref a, .ref b] _ EX hr.in1 I.env0.in1 (.cons rfl (.cons rfl .nil)) h) fun r s' hq => ?_
  cases r with
  | error e => exact hx pins σ H s e s' I hq
  | ok fl =>
    cases fl with
    | ret u =>
      obtain ⟨z, H', I', rz, c, ez, q⟩ := I.after hq
      subst ez
      obtain rfl : u = Value.bool c := rz
      exact ⟨c, rfl, .bl (!c), H', I', rfl, q⟩
    | next => exact False.elim hq
    | brk => exact False.elim hq
    | cont => exact False.elim hq
/-- ~a by its own method -/
theorem un_ownInv (F : FnR X.prog X.w X.K X.mg X.base CX n f sp) (hr : Room n X.A) (hx : Passes CX X EX) (hs : PySem.W.findIn X.K (.ref C) "__invert__" = some (some (.ref f))) (hf : PySem.W.isFn X.K (.ref f) = true) :
    UnR X (unaryOp .Invert) (fun x H Q => ∃ a dx fs, x = .ref a ∧ H a = some (.ins C dx fs) ∧ sp [x] H Q EX) := by
  intro pins s σ H x v Q I rx ⟨a, dx, fs, ex, ha, h⟩
  subst ex
  obtain rfl : v = Value.ref a := rx
  obtain ⟨mA, J, _⟩ := ins_get I.hok ha
  obtain ⟨od, J, _⟩ := J.look
  obtain ⟨m, hF⟩ := I.fr
  exact PySem.W.ksp_inv hF I.ok.mod.kin J hs hf (wpAny_call (run_fnR (us := [.ref a]) (vs := [.ref a]) F hr hx I (.cons rfl .nil) h))
end
end Dl

set_option Elab.async false
set_option linter.all false
set_option maxRecDepth 100000
set_option maxHeartbeats 4000000
/-! Dl: what is walked: lists, tuples, texts, ranges, enumerate, zip, reversed. -/
namespace PySem
open Sem (wp)
open AutoSeq1 (wpAny_loadPart')
theorem meets_enumerate_newT (l : Addr) (items : Array Value) (n : Nat) (dct : Option Addr) (sl : Array (Option Value)) :
    Meets (Builtin.«enumerate.__new__» ⟨[.type "enumerate", .ref l], []⟩) (fun _ R s => s.heap.get? l = some { cls := .type "tuple", dict := dct, data := .seq items n, slots := sl } ∧
      R (.ok (.ret (.ref (s.heap.push { cls := .type "tuple_iterator", data := .fields #[.ref l, .int 0 0] }).objs.size)))
        { s with heap := (s.heap.push { cls := .type "tuple_iterator", data := .fields #[.ref l, .int 0 0] }).push { cls := .type "enumerate", data := .fields #[.none, .bool false, .ref s.heap.objs.size, rawInt 0, .none, .none] } }) :=
  .of_wp fun prog w A R s h => by
    obtain ⟨hp, g, d, tk, os⟩ := s; obtain ⟨hl, h⟩ := h
    have hsub := sub_enumerate
    have hL : Heap.IsTuple (Shared.heap ⟨hp, g, d, tk, os⟩) l items := ⟨_, hl, rfl, n, rfl⟩
    wp_walk using wpAny_loadPart' hl
    refine wpAny_stack_any fun st => wpAny_pure ?_
    split
    · rename_i c _ _ _ _ _
      cases (c == Value.type "enumerate")
      · wp_walk using wpAny_loadPart' hl, wpAny_pyIter_tuple hL
        exact ⟨_, rfl, h⟩
      · wp_walk using wpAny_loadPart' hl, wpAny_pyIter_tuple hL
        exact ⟨_, rfl, h⟩
    · wp_walk using wpAny_loadPart' hl, wpAny_pyIter_tuple hL
      exact ⟨_, rfl, h⟩
section
variable {prog : Program} {w : World} {A : Around} {E : Value → Shared → Prop} {s : Shared}
theorem call_enumerate_tuple {l : Addr} {items : Array Value} {Q : Value → Shared → Prop} (hL : s.heap.IsTuple l items)
    (h : ∀ h', IsEnum h' (s.heap.objs.size + 1) s.heap.objs.size 0 .none → h'.IsTupleIter s.heap.objs.size l 0 → h'.objs.size = s.heap.objs.size + 2 →
      (∀ b o, s.heap.get? b = some o → h'.get? b = some o) → Q (.ref (s.heap.objs.size + 1)) { s with heap := h' }) :
    wpAny (model prog w) A (call (.type "enumerate") [.ref l]) Q E s := by
  obtain ⟨⟨c, dct, dt, sl⟩, hl, hc, n, hd⟩ := hL
  replace hc : c = .type "tuple" := hc
  replace hd : dt = .seq items n := hd
  subst hc hd
  refine callType_new F.called_enumerate (by decide) (F.typeCall_enumerate_1 _) (F.newCall_enumerate_1 _) (fun obj => F.args_object_init_2 obj _) F.entry_enumerate_new
    (meets_enumerate_newT l items n dct sl) ⟨hl, ?_⟩
  have hz : (s.heap.push { cls := .type "tuple_iterator", data := .fields #[.ref l, .int 0 0] }).objs.size = s.heap.objs.size + 1 := Heap.size_push ..
  show _ ∧ _
  rw [hz]
  have he : IsEnum ((s.heap.push { cls := .type "tuple_iterator", data := .fields #[.ref l, .int 0 0] }).push
      { cls := .type "enumerate", data := .fields #[.none, .bool false, .ref s.heap.objs.size, rawInt 0, .none, .none] }) (s.heap.objs.size + 1) s.heap.objs.size 0 .none := by
    have := Heap.get?_push_size (s.heap.push { cls := .type "tuple_iterator", data := .fields #[.ref l, .int 0 0] })
      (o := { cls := .type "enumerate", data := .fields #[.none, .bool false, .ref s.heap.objs.size, rawInt 0, .none, .none] }) rfl
    rw [hz] at this; exact this
  refine ⟨⟨_, he, rfl⟩, h _ he ⟨_, Heap.get?_push_of_some _ (Heap.get?_push_size _ rfl), rfl, rfl⟩ (by rw [Heap.size_push, hz]) fun b o x => Heap.get?_push_of_some _ (Heap.get?_push_of_some _ x)⟩
end
end PySem
namespace Dl
open PySem PySem.Spec PyProof.Rows L2
/-- the tuple at a, each item in a new pair -/
def IteT (K : PySem.W.Frag) (a : Addr) : It :=
  ⟨fun i H => ∃ (xs : List V) (x : V), SqT K H a xs ∧ xs[i]? = some x, fun i H v H' => ∃ T x, v = .ref T ∧ H T = none ∧ H' = upd H T (.tup [.int (i : Nat), x]) ∧ ∀ xs, SqT K H a xs → xs[i]? = some x, fun i H => ∃ xs : List V, SqT K H a xs ∧ xs.length = i⟩
theorem turn_enumT {P : Program} {w : World} {K : PySem.W.Frag} {elts : List Expr} {kk : Nat} {tpos : Pos} (a e it : Addr) (hae : a ≠ e) (hai : a ≠ it) (hne : e ≠ it) :
    Turn P w K (.Tuple elts kk tpos) (IteT K a) [e, it] e (fun i h => (∃ old, IsEnum h e it ((i : Nat) : Int) old) ∧ h.IsTupleIter it a i) where
  mem := by simp
  obj := fun i h st b hb => by
    obtain ⟨⟨old, he⟩, ⟨o, ho, hc, hd⟩⟩ := st
    have e' : b = e ∨ b = it := by simpa using hb
    rcases e' with z | z
    · rw [z]; exact ⟨_, he, fun v q => nomatch q⟩
    · rw [z]; exact ⟨o, ho, fun v q => by rw [hd] at q; cases q⟩
  keep := fun i h h' st k => let ⟨⟨old, he⟩, hi⟩ := st; ⟨⟨old, k e (by simp) _ he⟩, hi.at fun o q => k it (by simp) o q⟩
  item := by
    intro X hP hw hK hc i pins s σ H E I hf st hg
    subst hP hw hK
    obtain ⟨⟨old, he⟩, hit⟩ := st
    obtain ⟨xs, x, hq, hx⟩ := hg
    obtain ⟨its, rv, p, hz⟩ := I.tuple hq
    obtain ⟨u, hu, ru⟩ := rv.get hx
    have hel : e < s.heap.objs.size := Heap.lt_size he
    have hil : it < s.heap.objs.size := by obtain ⟨_, q, _⟩ := hit; exact Heap.lt_size q
    have hlt : i < its.toArray.size := by
      rw [List.size_toArray]
      exact (List.getElem?_eq_some_iff.mp hu).1
    have D := Draws.tuple (prog := X.prog) (w := X.w) (A := X.A.in1) (show X.A.in1.handled = none from I.ok.hd hc) it a hai its.toArray
    refine wpAny_pyNext_enum_itemD D he ⟨hit, (show s.heap.IsTuple a its.toArray from p)⟩ hlt hne (by simp [hne, Ne.symm hae]) fun x' h' tk hx' ho hit' hT hsz hk => ?_
    have hxu : x' = u := by
      have e1 : its[i]? = some x' := by simpa using hx'
      rw [hu] at e1
      exact (Option.some.inj e1).symm
    subst hxu
    refine ⟨_, rfl, wpAny_letOwnedTupleGo_enum (s := { s with heap := h', toks := tk + 1 }) ho fun h'' he' sb => ?_⟩
    have hT2 : h''.get? s.heap.objs.size = some { cls := .type "tuple", data := .seq #[.int i tk, x'] } := (sb.2 _ (Nat.ne_of_gt hel)).trans hT
    have new : ObjOk X.prog X.w (upd H s.heap.objs.size (.tup [.int (i : Nat), x])) h'' s.heap.objs.size (.tup [.int (i : Nat), x]) :=
      ⟨by show 2 ≤ sizeLine; decide, [.int i tk, x'], .cons ⟨_, rfl⟩ (.cons ru .nil), ⟨_, hT2, rfl, _, rfl⟩⟩
    have I1 : Inv X pins σ (upd H s.heap.objs.size (.tup [.int (i : Nat), x])) { s with heap := h'', toks := tk + 1 } :=
      I.turnedNew (ch := [e, it]) (fun b ob hb q => (sb.2 b (fun z => hb (by simp [z]))).trans (hk b ob (fun z => hb (by simp [z])) (fun z => hb (by simp [z])) q)) hf (Nat.le_refl _) new
    refine ⟨.ref s.heap.objs.size, _, I1, rfl, ⟨_, x, rfl, I.hok.fresh (Nat.le_refl _), rfl, fun ys hy => by rw [I.tuple_inj hy hq]; exact hx⟩, ⟨⟨x', ?_⟩, hit'.1.at fun o q => (sb.2 it (Ne.symm hne)).trans q⟩, fun b hb => ?_⟩
    · have e1 : ((i + 1 : Nat) : Int) = (i : Int) + 1 := by omega
      rw [e1]; exact he'
    · have hb' : b < s.heap.objs.size := by
        have e' : b = e ∨ b = it := by simpa using hb
        rcases e' with z | z
        · rw [z]; exact hel
        · rw [z]; exact hil
      rw [upd_ne (Nat.ne_of_lt hb')]
      exact (hf b hb).1
  done := by
    intro X hP hw hK hc i pins s σ H E I hf st hg
    subst hP hw hK
    obtain ⟨⟨old, he⟩, hit⟩ := st
    obtain ⟨xs, hq, hx⟩ := hg
    obtain ⟨its, rv, p, hz⟩ := I.tuple hq
    obtain ⟨f0, f1, f2, f3, f4, f5⟩ := hf it (by simp)
    have hl := rv.length
    have D := Draws.tuple (prog := X.prog) (w := X.w) (A := X.A.in1) (show X.A.in1.handled = none from I.ok.hd hc) it a hai its.toArray
    have hi : i = its.toArray.size := by rw [List.size_toArray]; omega
    subst hi
    exact wpAny_pyNext_enum_endD D he ⟨hit, (show s.heap.IsTuple a its.toArray from p)⟩ fun h' eb => ⟨rfl, I.turned (t' := s.toks) (fun b o hb q => eb b o hb q) f0 f1 f3 f4 f5⟩
  self := fun A i s Q E st h => let ⟨⟨_, he⟩, _⟩ := st; wpAny_pyIter_enum he h
/-- enumerate(x), x a list or a tuple -/
def iEnumA (K : PySem.W.Frag) (ta : TA) : TI := fun σ H R => ta σ H fun vs H1 => ∃ a xs, vs = [.ref a] ∧ ((SqL K H1 a xs ∧ R (Ite K a) H1) ∨ (SqT K H1 a xs ∧ R (IteT K a) H1))
theorem pi_enumA {X : Cx} {e : Expr} {ta : TA} {p pos tpos : Pos} {elts : List Expr} {kk : Nat} (hg : Gl X "enumerate") (hm : X.mg "enumerate" = none) (ha : PA X [e] ta) (hs : starEach [e] X.env = [(false, eval e X.env)]) :
    PI X (.Tuple elts kk tpos) (.Call (.Name "enumerate" p) [e] [] pos) (iEnumA X.K ta) := by
  refine ⟨fun pins s σ H R I h => ?_⟩
  refine Call_ (ld_blt I hg hm boot_enumerate (PyProof.Rows.callWith_type1 (thn (ha.run pos pins s σ H _ I h) fun us s1 ⟨vs, H1, I1, r1, q1⟩ => ?_) hs rfl))
  obtain ⟨a, xs, ex, q⟩ := q1
  subst ex
  cases r1 with
  | cons r rr =>
    cases rr
    cases r
    have fr : ∀ b ∈ [s1.heap.objs.size + 1, s1.heap.objs.size], FpOk X pins H1 b := fun b hb => by
      have e' : b = s1.heap.objs.size + 1 ∨ b = s1.heap.objs.size := by simpa using hb
      have hle : s1.heap.objs.size ≤ b := by
        rcases e' with z | z
        · rw [z]; exact Nat.le_add_right _ _
        · rw [z]; exact Nat.le_refl _
      exact I1.fpOk hle (I1.hok.fresh hle)
    rcases q with ⟨hq, q⟩ | ⟨hq, q⟩
    · obtain ⟨its, rv, p', hz⟩ := I1.list hq
      refine call_enumerate_list p'.isList fun h' he hit hsz hk => wpAny_pyIter_enum he ?_
      have I2 : Inv X pins σ H1 { s1 with heap := h' } := I1.kept (t' := s1.toks) hk
      exact ⟨s1.heap.objs.size + 1, [s1.heap.objs.size + 1, s1.heap.objs.size], _, _, H1, rfl, I2, turn_enum a (s1.heap.objs.size + 1) s1.heap.objs.size, ⟨⟨.none, he⟩, hit, Nat.succ_ne_self _⟩, fr, q⟩
    · obtain ⟨its, rv, p', hz⟩ := I1.tuple hq
      have la : a < s1.heap.objs.size := by obtain ⟨_, q, _⟩ := p'; exact Heap.lt_size q
      refine call_enumerate_tuple (show s1.heap.IsTuple a its.toArray from p') fun h' he hit hsz hk => wpAny_pyIter_enum he ?_
      have I2 : Inv X pins σ H1 { s1 with heap := h' } := I1.kept (t' := s1.toks) hk
      exact ⟨s1.heap.objs.size + 1, [s1.heap.objs.size + 1, s1.heap.objs.size], _, _, H1, rfl, I2, turn_enumT a (s1.heap.objs.size + 1) s1.heap.objs.size (Nat.ne_of_lt (Nat.lt_succ_of_lt la)) (Nat.ne_of_lt la) (Nat.succ_ne_self _), ⟨⟨.none, he⟩, hit⟩, fr, q⟩
/-- a list, a tuple, a text -/
def iSeq (K : PySem.W.Frag) (te : TE) : TI := fun σ H R => te σ H fun x H1 => (∃ a xs, x = .ref a ∧ SqL K H1 a xs ∧ R (Itl K a) H1) ∨ (∃ a xs, x = .ref a ∧ SqT K H1 a xs ∧ R (Itt K a) H1) ∨ ∃ z, x = .str z ∧ R (Its z) H1
theorem pi_seq {X : Cx} {tg e : Expr} {te : TE} (he : PE X e te) : PI X tg e (iSeq X.K te) := by
  refine ⟨fun pins s σ H R I h => ?_⟩
  refine thn (he.run pins s σ H _ I h) fun v s1 ⟨x, H1, I1, r1, q1⟩ => ?_
  rcases q1 with ⟨a, xs, rfl, hq, q⟩ | ⟨a, xs, rfl, hq, q⟩ | ⟨z, rfl, q⟩
  · cases r1
    obtain ⟨its, rv, p, hz⟩ := I1.list hq
    refine wpAny_pyIter_list p.isList ?_
    refine ⟨s1.heap.objs.size, [s1.heap.objs.size], _, _, H1, rfl, I1.kept (t' := s1.toks) fun b o e => Heap.get?_push_of_some _ e, turn_list a _, ⟨_, Heap.get?_push_size _ rfl, rfl, rfl⟩, fun b hb => ?_, q⟩
    have e : b = s1.heap.objs.size := by simpa using hb
    subst e
    exact I1.fpOk (Nat.le_refl _) (I1.hok.fresh (Nat.le_refl _))
  · cases r1
    obtain ⟨its, rv, p, hz⟩ := I1.tuple hq
    refine wpAny_pyIter_tuple (show s1.heap.IsTuple a its.toArray from p) ?_
    refine ⟨s1.heap.objs.size, [s1.heap.objs.size], _, _, H1, rfl, I1.kept (t' := s1.toks) fun b o e => Heap.get?_push_of_some _ e, turn_tuple a _, ⟨_, Heap.get?_push_size _ rfl, rfl, rfl⟩, fun b hb => ?_, q⟩
    have e : b = s1.heap.objs.size := by simpa using hb
    subst e
    exact I1.fpOk (Nat.le_refl _) (I1.hok.fresh (Nat.le_refl _))
  · obtain ⟨t, rfl⟩ := r1
    cases ha : z.cps.all (· < 128)
    · exact wpAny_pyIter_wide ha (pi_one (tk := s1.toks) I1 _ (turn_str _ z t "str_iterator" (.inr rfl)) ⟨_, Heap.get?_push_size _ rfl, rfl, rfl⟩ q)
    · exact wpAny_pyIter_ascii ha (pi_one (tk := s1.toks) I1 _ (turn_str _ z t "str_ascii_iterator" (.inl rfl)) ⟨_, Heap.get?_push_size _ rfl, rfl, rfl⟩ q)
end Dl

set_option Elab.async false
set_option linter.all false
set_option maxRecDepth 100000
set_option maxHeartbeats 4000000
/-! Dl: for p in zip(xs, ys): the target is one name, so that the tuple may still be held at the next turn, or be gone. -/
namespace Dl
open PySem PySem.Spec PyProof.Rows L2
section
variable {prog : Program} {w : World} {A : Around} {E : Value → Shared → Prop} {s : Shared}
theorem gone_look {a : Addr} {Q : Option Obj → Shared → Prop} (ho : s.heap.get? a = none) (h : Q none s) : wpAny (model prog w) A (loadIfAlive a) Q E s := by
  have q : Q (s.heap.get? a) s := by rw [ho]; exact h
  exact fun _ _ _ => q
/-- the tuple that was handed out is gone: it is made anew in its place -/
theorem gone_free {z TI TO T : Addr} {f : Bool} {Q : Bool → Shared → Prop} (kz : IsZipHeld s.heap z TI TO T f) (kT : s.heap.get? T = none) (q : Q true s) :
    wpAny (model prog w) A (Builtin.SmallTypes.ownedTupleIsFree (.ref z)) Q E s := by
  unfold Builtin.SmallTypes.ownedTupleIsFree
  refine wpAny_bind (wpAny_field kz rfl (x := rawInt T) rfl ?_)
  have e : ((T : Int).toNat) = T := Int.toNat_natCast T
  refine wpAny_bind (?_ : wpAny _ _ (loadIfAlive ((T : Int).toNat)) _ _ _)
  rw [e]
  exact gone_look kT (by simpa using wpAny_pure q)
/-- the two iterators are asked, the tuple kept is filled -/
theorem gone_item {z TI TO T i1 i2 l1 l2 : Addr} {f : Bool} {m n : Nat} {xs ys : Array Value} {x y a b : Value} {Q : Value → Shared → Prop} (D : ZipApart z TI TO i1 i2 l1 l2)
    (kz : IsZipHeld s.heap z TI TO T f) (kT : s.heap.get? T = none) (kI : IsPair s.heap TI (.ref i1) (.ref i2)) (kO : IsPair s.heap TO a b)
    (j1 : s.heap.IsListIter i1 l1 m) (j2 : s.heap.IsListIter i2 l2 n) (g1 : s.heap.IsList l1 xs) (g2 : s.heap.IsList l2 ys) (e1 : xs[m]? = some x) (e2 : ys[n]? = some y)
    (q : ∀ h', IsZipHeld h' z TI TO s.heap.objs.size false → IsPair h' TO x y → h'.IsListIter i1 l1 (m + 1) → h'.IsListIter i2 l2 (n + 1) → IsPair h' s.heap.objs.size x y →
      (∀ c o, c ≠ z → c ≠ TO → c ≠ i1 → c ≠ i2 → s.heap.get? c = some o → h'.get? c = some o) → h'.objs.size = s.heap.objs.size + 1 → Q (.ref s.heap.objs.size) { s with heap := h' }) :
    wpAny (model prog w) A (Builtin.«zip.__next__» ⟨[.ref z], []⟩) (fun fin s' => ∃ v, fin = .done (.ret v) ∧ Q v s') E s := by
  show wpAny (model prog w) A (field (.ref z) 2 >>= _) _ E s
  refine wpAny_bind (wpAny_field kz rfl (x := Value.bool false) rfl ?_)
  show wpAny (model prog w) A (field (.ref z) 3 >>= _) _ E s
  refine wpAny_bind (wpAny_field kz rfl (x := Value.ref TI) rfl ?_)
  refine wpAny_bind (wpAny_seqItems kI rfl ?_)
  show wpAny (model prog w) A (Builtin.SmallTypes.ownedTupleIsFree (.ref z) >>= _) _ E s
  refine wpAny_bind (gone_free kz kT ?_)
  simp only [if_true]
  refine wpAny_bind (wpAny_rule ?_)
  refine wpAny_bind (wpAny_field kz rfl (x := Value.ref TO) rfl ?_)
  refine wpAny_bind (wpAny_setField_rec kz (by simp) fun u1 z1 s1 => ?_)
  refine wpAny_bind ?_
  simp only [List.zipIdx_cons, List.zipIdx_nil, List.forIn_cons, List.forIn_nil]
  refine wpAny_bind (wpAny_bind (wpAny_onRaise (?_ : wpAny (model prog w) A (Builtin.SmallTypes.nextOf (.ref i1) >>= _) _ _ _)))
  refine wpAny_bind (wpAny_nextOf_list_item (j1.extBut s1.extBut D.i1z) (g1.extBut s1.extBut D.l1z) e1 fun u2 y2 s2 => wpAny_pure ?_)
  have o2 : IsPair u2 TO a b := s2.extBut _ _ D.TOi1 (s1.extBut _ _ D.TOz kO)
  refine wpAny_bind (wpAny_seqItems o2 rfl ?_)
  refine wpAny_bind (wpAny_updateSeq_pair o2 fun u3 o3 s3 => ?_)
  have o3 : IsPair u3 TO x b := o3
  refine wpAny_bind (wpAny_letGo (wpAny_pure ?_))
  refine wpAny_bind (wpAny_bind (wpAny_onRaise (?_ : wpAny (model prog w) A (Builtin.SmallTypes.nextOf (.ref i2) >>= _) _ _ _)))
  have j3 := ((j2.extBut s1.extBut D.i2z).extBut s2.extBut D.i12.symm).extBut s3.extBut D.TOi2.symm
  have g3 := ((g2.extBut s1.extBut D.l2z).extBut s2.extBut D.l2i1).extBut s3.extBut D.l2TO
  refine wpAny_bind (wpAny_nextOf_list_item j3 g3 e2 fun u4 y4 s4 => wpAny_pure ?_)
  have o4 : IsPair u4 TO x b := s4.extBut _ _ D.TOi2 o3
  refine wpAny_bind (wpAny_seqItems o4 rfl ?_)
  refine wpAny_bind (wpAny_updateSeq_pair o4 fun u5 o5 s5 => ?_)
  have o5 : IsPair u5 TO x y := o5
  refine wpAny_bind (wpAny_letGo (wpAny_pure (wpAny_pure ?_)))
  refine wpAny_bind (wpAny_seqItems o5 rfl ?_)
  refine wpAny_bind (wpAny_newTuple ?_)
  have sz : u5.objs.size = s.heap.objs.size := by rw [s5.1, s4.1, s3.1, s2.1, s1.1]
  have z5 := s5.extBut _ _ D.TOz.symm (s4.extBut _ _ D.i2z.symm (s3.extBut _ _ D.TOz.symm (s2.extBut _ _ D.i1z.symm z1)))
  have k5 : ∀ c o, c ≠ z → c ≠ TO → c ≠ i1 → c ≠ i2 → s.heap.get? c = some o → u5.get? c = some o := fun c o a1 a2 a3 a4 e =>
    s5.extBut _ _ a2 (s4.extBut _ _ a4 (s3.extBut _ _ a2 (s2.extBut _ _ a3 (s1.extBut _ _ a1 e))))
  have y5 := ((y2.extBut s3.extBut D.TOi1.symm).extBut s4.extBut D.i12).extBut s5.extBut D.TOi1.symm
  have w5 := y4.extBut s5.extBut D.TOi2.symm
  have lz := Heap.lt_size z5
  refine wpAny_bind (?_ : wpAny (model prog w) A (Builtin.SmallTypes.ownedTupleHandOut (.ref z) (.ref u5.objs.size)) _ _ _)
  unfold Builtin.SmallTypes.ownedTupleHandOut
  have z6 := Heap.get?_push_of_some (h := u5) (o := { cls := .type "tuple", data := .seq #[x, y] }) z5
  refine wpAny_bind (wpAny_setField_rec z6 (by simp) fun u7 z7 s7 => ?_)
  refine wpAny_setField_rec z7 (by simp) fun u8 z8 s8 => ?_
  have up : ∀ c o, c ≠ z → u5.get? c = some o → u8.get? c = some o := fun c o a1 e => s8.extBut _ _ a1 (s7.extBut _ _ a1 (Heap.get?_push_of_some _ e))
  have t8 : IsPair u8 u5.objs.size x y := s8.extBut _ _ (Nat.ne_of_gt lz) (s7.extBut _ _ (Nat.ne_of_gt lz) (Heap.get?_push_size _ rfl))
  have n8 : u8.objs.size = u5.objs.size + 1 := by rw [s8.1, s7.1, Heap.size_push]
  have z8 : IsZipHeld u8 z TI TO u5.objs.size false := z8
  rw [sz] at z8 t8 n8
  refine wpAny_pure ⟨_, rfl, (?_ : Q (.ref u5.objs.size) _)⟩
  rw [sz]
  exact q u8 z8 (up _ _ D.TOz o5) (y5.at fun o e => up _ o D.i1z e) (w5.at fun o e => up _ o D.i2z e) t8 (fun c o a1 a2 a3 a4 e => up c o a1 (k5 c o a1 a2 a3 a4 e)) n8
theorem gone_end {z TI TO T i1 i2 l1 l2 : Addr} {f : Bool} {m n : Nat} {xs ys : Array Value} {a b : Value} {Q : Fin → Shared → Prop} (hh : A.handled = none) (D : ZipApart z TI TO i1 i2 l1 l2)
    (kz : IsZipHeld s.heap z TI TO T f) (kT : s.heap.get? T = none) (kI : IsPair s.heap TI (.ref i1) (.ref i2)) (kO : IsPair s.heap TO a b)
    (j1 : s.heap.IsListIter i1 l1 m) (j2 : s.heap.IsListIter i2 l2 n) (g1 : s.heap.IsList l1 xs) (g2 : s.heap.IsList l2 ys) (e0 : xs[m]? = none ∨ ys[n]? = none)
    (q : ∀ h' e, (∀ c o, c ≠ z → c ≠ TO → c ≠ i1 → c ≠ i2 → s.heap.get? c = some o → h'.get? c = some o) → (∃ o, h'.get? e = some o ∧ o.cls = .type "StopIteration") → E (.ref e) { s with heap := h' }) :
    wpAny (model prog w) A (Builtin.«zip.__next__» ⟨[.ref z], []⟩) Q E s := by
  show wpAny (model prog w) A (field (.ref z) 2 >>= _) _ E s
  refine wpAny_bind (wpAny_field kz rfl (x := Value.bool false) rfl ?_)
  show wpAny (model prog w) A (field (.ref z) 3 >>= _) _ E s
  refine wpAny_bind (wpAny_field kz rfl (x := Value.ref TI) rfl ?_)
  refine wpAny_bind (wpAny_seqItems kI rfl ?_)
  show wpAny (model prog w) A (Builtin.SmallTypes.ownedTupleIsFree (.ref z) >>= _) _ E s
  refine wpAny_bind (gone_free kz kT ?_)
  simp only [if_true]
  refine wpAny_bind (wpAny_rule ?_)
  refine wpAny_bind (wpAny_field kz rfl (x := Value.ref TO) rfl ?_)
  refine wpAny_bind (wpAny_setField_rec kz (by simp) fun u1 z1 s1 => ?_)
  refine wpAny_bind ?_
  simp only [List.zipIdx_cons, List.zipIdx_nil, List.forIn_cons, List.forIn_nil]
  have stop : ∀ {u : Heap} {e : Addr}, (∃ o, u.get? e = some o ∧ o.cls = .type "StopIteration") → (∃ vs : Array Value, u.get? z = some { cls := .type "zip", dict := none, data := .fields vs, slots := #[] } ∧ 0 < vs.size) → (∀ c o, c ≠ z → c ≠ TO → c ≠ i1 → c ≠ i2 → s.heap.get? c = some o → u.get? c = some o) →
      wpAny (model prog w) A (setField (.ref z) 0 .none) (fun _ s'' => E (.ref e) s'') E { s with heap := u } := by
    rintro u e ⟨oe, he, hc⟩ ⟨vs, hz, hv⟩ hk
    have ne : e ≠ z := by
      rintro rfl
      rw [hz] at he
      cases he
      simp at hc
    exact wpAny_setField_rec hz hv fun u' _ s' => q u' e (fun c o a1 a2 a3 a4 x => s'.extBut _ _ a1 (hk c o a1 a2 a3 a4 x)) ⟨oe, s'.extBut _ _ ne he, hc⟩
  refine wpAny_bind (wpAny_bind (wpAny_onRaise (?_ : wpAny (model prog w) A (Builtin.SmallTypes.nextOf (.ref i1) >>= _) _ _ _)))
  cases e1 : xs[m]? with
  | none =>
    refine wpAny_bind (wpAny_nextOf_list_end hh (j1.extBut s1.extBut D.i1z) (g1.extBut s1.extBut D.l1z) e1 fun u2 e s2 he => ?_)
    exact stop he ⟨_, s2 _ _ D.i1z.symm z1, by simp⟩ fun c o a1 _ a3 _ x => s2 _ _ a3 (s1.extBut _ _ a1 x)
  | some x =>
    have e2 : ys[n]? = none := by
      rcases e0 with h | h
      · rw [e1] at h; cases h
      · exact h
    refine wpAny_bind (wpAny_nextOf_list_item (j1.extBut s1.extBut D.i1z) (g1.extBut s1.extBut D.l1z) e1 fun u2 y2 s2 => wpAny_pure ?_)
    have o2 : IsPair u2 TO a b := s2.extBut _ _ D.TOi1 (s1.extBut _ _ D.TOz kO)
    refine wpAny_bind (wpAny_seqItems o2 rfl ?_)
    refine wpAny_bind (wpAny_updateSeq_pair o2 fun u3 o3 s3 => ?_)
    refine wpAny_bind (wpAny_letGo (wpAny_pure ?_))
    refine wpAny_bind (wpAny_bind (wpAny_onRaise (?_ : wpAny (model prog w) A (Builtin.SmallTypes.nextOf (.ref i2) >>= _) _ _ _)))
    have j3 := ((j2.extBut s1.extBut D.i2z).extBut s2.extBut D.i12.symm).extBut s3.extBut D.TOi2.symm
    have g3 := ((g2.extBut s1.extBut D.l2z).extBut s2.extBut D.l2i1).extBut s3.extBut D.l2TO
    refine wpAny_bind (wpAny_nextOf_list_end hh j3 g3 e2 fun u4 e s4 he => ?_)
    have z4 := s4 _ _ D.i2z.symm (s3.extBut _ _ D.TOz.symm (s2.extBut _ _ D.i1z.symm z1))
    exact stop he ⟨_, z4, by simp⟩ fun c o a1 a2 a3 a4 x => s4 _ _ a4 (s3.extBut _ _ a2 (s2.extBut _ _ a3 (s1.extBut _ _ a1 x)))
theorem zip_step {z : Addr} {fs : Array Value} {Q : Option Value → Shared → Prop} (kz : s.heap.get? z = some { cls := .type "zip", dict := none, data := .fields fs, slots := #[] })
    (h : wpAny (model prog w) A.in1 (Builtin.«zip.__next__» ⟨[.ref z], []⟩) (fun fin s' => ∃ v, fin = .done (.ret v) ∧ Q (some v) s') (fun e s' => (∃ a o, e = .ref a ∧ s'.heap.get? a = some o ∧ o.cls = .type "StopIteration") ∧ Q none s') s) :
    wpAny (model prog w) A (pyNext (.ref z)) Q E s := by
  have ty : s.TypeIs (.ref z) "zip" := ⟨_, kz, rfl⟩
  unfold pyNext
  refine wpAny_bind (wpAny_attempt (wpAny_callSpecial?_slot (name := Str.ofString "__next__") ty F.slot_zip_next ?_))
  refine wpAny_call_entry F.slot_zip_next ty F.entry_zip_next ?_ (F.args_zip_next_1 _)
  refine wpAny_mono h (fun fin s' ⟨v, e, q⟩ => ⟨v, e, wpAny_pure q⟩) fun e s' hq => ?_
  obtain ⟨⟨a, o, rfl, ho, hc⟩, q⟩ := hq
  exact wpAny_bind (wpAny_isInstance (T := "StopIteration") (b := true) ⟨o, ho, hc⟩ isSubtype_stop (wpAny_pure q))
theorem iter_zip {z : Addr} {fs : Array Value} {Q : Value → Shared → Prop} (kz : s.heap.get? z = some { cls := .type "zip", dict := none, data := .fields fs, slots := #[] }) (h : Q (.ref z) s) : wpAny (model prog w) A (pyIter (.ref z)) Q E s := by
  have ty : s.TypeIs (.ref z) "zip" := ⟨_, kz, rfl⟩
  refine wpAny_pyIter_slot ty F.slot_zip_iter ?_
  refine wpAny_call_entry F.slot_zip_iter ty F.entry_zip_iter ?_ (F.args_zip_iter_1 _)
  have q : ∃ v, Fin.done (Flow.ret (Value.ref z)) = Fin.done (Flow.ret v) ∧ ∃ T' r, s.TypeIs v T' ∧ typeLookup (.type T') (Str.ofString "__next__") = pure (some r) ∧ Q v s := ⟨_, rfl, "zip", _, ty, F.slot_zip_next.lookup, h⟩
  exact wpAny_pure q
end
/-- as turn_zip of HandS, the target one name -/
theorem turn_zipN {P : Program} {w : World} {K : PySem.W.Frag} {nm : Str} {xp : Pos} {a b z TI TO i1 i2 : Addr} (D : ZipApart z TI TO i1 i2 a b) :
    Turn P w K (.Name nm xp) (Itz K a b) [z, TI, TO, i1, i2] z (fun i h => (IsZip h z TI TO .none ∨ ∃ T f, IsZipHeld h z TI TO T f) ∧ IsPair h TI (.ref i1) (.ref i2) ∧ (∃ x y, IsPair h TO x y) ∧ h.IsListIter i1 a i ∧ h.IsListIter i2 b i) where
  mem := by simp
  obj := fun i h st c hc => by
    obtain ⟨hz, kI, ⟨x, y, kO⟩, ⟨o1, e1, _, d1⟩, ⟨o2, e2, _, d2⟩⟩ := st
    simp only [List.mem_cons, List.not_mem_nil, or_false] at hc
    rcases hc with rfl | rfl | rfl | rfl | rfl
    · rcases hz with hz | ⟨T, f, hz⟩
      · exact ⟨_, hz, fun v q => by cases q⟩
      · exact ⟨_, hz, fun v q => by cases q⟩
    · exact ⟨_, kI, fun v q => by cases q⟩
    · exact ⟨_, kO, fun v q => by cases q⟩
    · exact ⟨o1, e1, fun v q => by rw [d1] at q; cases q⟩
    · exact ⟨o2, e2, fun v q => by rw [d2] at q; cases q⟩
  keep := fun i h h' st k => by
    obtain ⟨hz, kI, ⟨x, y, kO⟩, h1, h2⟩ := st
    refine ⟨?_, k TI (by simp) _ kI, ⟨x, y, k TO (by simp) _ kO⟩, h1.at fun o q => k i1 (by simp) o q, h2.at fun o q => k i2 (by simp) o q⟩
    rcases hz with hz | ⟨T, f, hz⟩
    · exact .inl (k z (by simp) _ hz)
    · exact .inr ⟨T, f, k z (by simp) _ hz⟩
  item := by
    intro X hP hw hK hc i pins s σ H E I hf st hg
    subst hP hw hK
    obtain ⟨hz, kI, ⟨x0, y0, kO⟩, h1, h2⟩ := st
    obtain ⟨xs, ys, x, y, hqx, hqy, hx, hy⟩ := hg
    obtain ⟨its, rv, p, _⟩ := I.list hqx
    obtain ⟨its2, rv2, p2, _⟩ := I.list hqy
    obtain ⟨u, hu, ru⟩ := rv.get hx
    obtain ⟨u2, hu2, ru2⟩ := rv2.get hy
    have fin : ∀ h' : Heap, (∃ T f, IsZipHeld h' z TI TO T f) → (∃ x y, IsPair h' TO x y) → h'.IsListIter i1 a (i + 1) → h'.IsListIter i2 b (i + 1) → IsPair h' s.heap.objs.size u u2 → (∀ c o, c ≠ z → c ≠ TO → c ≠ i1 → c ≠ i2 → s.heap.get? c = some o → h'.get? c = some o) →
        ∃ v, some (Value.ref s.heap.objs.size) = some v ∧ wpAny (model X.prog X.w) X.A (letOwnedTupleGo (.Name nm xp) (.ref z) v) (fun _ s2 => ∃ x H', Inv X pins σ H' s2 ∧ RelV x v ∧ (Itz X.K a b).yld i H x H' ∧ ((IsZip s2.heap z TI TO .none ∨ ∃ T f, IsZipHeld s2.heap z TI TO T f) ∧ IsPair s2.heap TI (.ref i1) (.ref i2) ∧ (∃ x y, IsPair s2.heap TO x y) ∧ s2.heap.IsListIter i1 a (i + 1) ∧ s2.heap.IsListIter i2 b (i + 1)) ∧ ∀ b ∈ [z, TI, TO, i1, i2], H' b = none) E { s with heap := h' } := by
      intro h' zz oo j1 j2 tt kk
      refine ⟨_, rfl, wpAny_pure ?_⟩
      have zl : ∀ c ∈ [z, TI, TO, i1, i2], c < s.heap.objs.size := fun c hm => by
        simp only [List.mem_cons, List.not_mem_nil, or_false] at hm
        rcases hm with rfl | rfl | rfl | rfl | rfl
        · rcases hz with hz | ⟨T, f, hz⟩
          · exact Heap.lt_size hz
          · exact Heap.lt_size hz
        · exact Heap.lt_size kI
        · exact Heap.lt_size kO
        · obtain ⟨_, e1, _⟩ := h1; exact Heap.lt_size e1
        · obtain ⟨_, e2, _⟩ := h2; exact Heap.lt_size e2
      have new : ObjOk X.prog X.w (upd H s.heap.objs.size (.tup [x, y])) h' s.heap.objs.size (.tup [x, y]) :=
        ⟨(by decide : 2 ≤ sizeLine), [u, u2], .cons ru (.cons ru2 .nil), ⟨_, tt, rfl, _, rfl⟩⟩
      have out : ∀ {c : Addr}, c ∉ [z, TI, TO, i1, i2] → c ≠ z ∧ c ≠ TO ∧ c ≠ i1 ∧ c ≠ i2 := fun {c} hb => ⟨fun e => hb (by simp [e]), fun e => hb (by simp [e]), fun e => hb (by simp [e]), fun e => hb (by simp [e])⟩
      have I1 : Inv X pins σ (upd H s.heap.objs.size (.tup [x, y])) { s with heap := h' } :=
        I.turnedNew (t' := s.toks) (ch := [z, TI, TO, i1, i2]) (fun c o hb e => let ⟨a1, a2, a3, a4⟩ := out hb; kk c o a1 a2 a3 a4 e) hf (Nat.le_refl _) new
      refine ⟨.ref s.heap.objs.size, _, I1, rfl, ⟨_, x, y, rfl, I.hok.fresh (Nat.le_refl _), rfl, fun l hl => by rw [I.list_inj hl hqx]; exact hx, fun l hl => by rw [I.list_inj hl hqy]; exact hy⟩, ⟨.inr zz, kk _ _ D.TIz D.TITO D.TIi1 D.TIi2 kI, oo, j1, j2⟩, fun c hm => ?_⟩
      rw [upd_ne (Nat.ne_of_lt (zl c hm))]
      exact (hf c hm).1
    have eu : its.toArray[i]? = some u := by simpa using hu
    have eu2 : its2.toArray[i]? = some u2 := by simpa using hu2
    rcases hz with hz | ⟨T, f, hz⟩
    · exact wpAny_pyNext_zip_item D hz kI kO h1 h2 p.isList p2.isList eu eu2 fun h' z' o' j1 j2 t n k => fin h' ⟨_, _, z'⟩ ⟨_, _, o'⟩ j1 j2 t k
    · cases q : s.heap.get? T with
      | some oT => exact wpAny_pyNext_zip_item_held D hz q kI h1 h2 p.isList p2.isList eu eu2 fun h' z' j1 j2 t n k => fin h' ⟨_, _, z'⟩ ⟨_, _, k _ _ D.TOz D.TOi1 D.TOi2 kO⟩ j1 j2 t fun c o a1 _ a3 a4 e => k c o a1 a3 a4 e
      | none => exact zip_step hz (wpAny_mono (gone_item (A := X.A.in1) (Q := fun v s' => ∃ u, some v = some u ∧ wpAny (model X.prog X.w) X.A (letOwnedTupleGo (.Name nm xp) (.ref z) u) (fun _ s2 => ∃ x H', Inv X pins σ H' s2 ∧ RelV x u ∧ (Itz X.K a b).yld i H x H' ∧ ((IsZip s2.heap z TI TO .none ∨ ∃ T f, IsZipHeld s2.heap z TI TO T f) ∧ IsPair s2.heap TI (.ref i1) (.ref i2) ∧ (∃ x y, IsPair s2.heap TO x y) ∧ s2.heap.IsListIter i1 a (i + 1) ∧ s2.heap.IsListIter i2 b (i + 1)) ∧ ∀ b ∈ [z, TI, TO, i1, i2], H' b = none) E s') D hz q kI kO h1 h2 p.isList p2.isList eu eu2 fun h' z' o' j1 j2 t k n => fin h' ⟨_, _, z'⟩ ⟨_, _, o'⟩ j1 j2 t k) (fun _ _ h => h) fun _ _ h => h)
  done := by
    intro X hP hw hK hc i pins s σ H E I hf st hg
    subst hP hw hK
    obtain ⟨hz, kI, ⟨x0, y0, kO⟩, h1, h2⟩ := st
    obtain ⟨xs, ys, hqx, hqy, hend⟩ := hg
    obtain ⟨its, rv, p, _⟩ := I.list hqx
    obtain ⟨its2, rv2, p2, _⟩ := I.list hqy
    have l1 := rv.length
    have l2 := rv2.length
    have he : its.toArray[i]? = none ∨ its2.toArray[i]? = none := by
      rcases hend with q | q
      · left; simp; omega
      · right; simp; omega
    have out : ∀ {c : Addr}, c ∉ [z, TI, TO, i1, i2] → c ≠ z ∧ c ≠ TO ∧ c ≠ i1 ∧ c ≠ i2 := fun {c} hb => ⟨fun e => hb (by simp [e]), fun e => hb (by simp [e]), fun e => hb (by simp [e]), fun e => hb (by simp [e])⟩
    have fin : ∀ h' : Heap, (∀ c o, c ≠ z → c ≠ TO → c ≠ i1 → c ≠ i2 → s.heap.get? c = some o → h'.get? c = some o) → (none : Option Value) = none ∧ Inv X pins σ H { s with heap := h' } := fun h' kk =>
      ⟨rfl, I.turnedL (t' := s.toks) (ch := [z, TI, TO, i1, i2]) (fun c o hb e => let ⟨a1, a2, a3, a4⟩ := out hb; kk c o a1 a2 a3 a4 e) hf⟩
    rcases hz with hz | ⟨T, f, hz⟩
    · exact wpAny_pyNext_zip_end (I.ok.hd hc) D hz kI kO h1 h2 p.isList p2.isList he fin
    · cases q : s.heap.get? T with
      | some oT => exact wpAny_pyNext_zip_end_held (I.ok.hd hc) D hz q kI h1 h2 p.isList p2.isList he fun h' k => fin h' fun c o a1 _ a3 a4 e => k c o a1 a3 a4 e
      | none => exact zip_step hz (gone_end (A := X.A.in1) (I.ok.hd hc) D hz q kI kO h1 h2 p.isList p2.isList he fun h' e k ⟨o, ho, hc⟩ => ⟨⟨e, o, rfl, ho, hc⟩, fin h' k⟩)
  self := fun A i s Q E st h => by
    rcases st.1 with hz | ⟨T, f, hz⟩
    · exact iter_zip hz h
    · exact iter_zip hz h
theorem pi_zipN {X : Cx} {e e2 : Expr} {ta : TA} {p pos tp : Pos} {nm : Str} (hg : Gl X "zip") (hm : X.mg "zip" = none) (ha : PA X [e, e2] ta)
    (hs : starEach [e, e2] X.env = (false, eval e X.env) :: starEach [e2] X.env) (hpl : (backTo pos (starEach [e2] X.env)).any (·.1) = false) : PI X (.Name nm tp) (.Call (.Name "zip" p) [e, e2] [] pos) (iZip X.K ta) := by
  refine ⟨fun pins s σ H R I h => Call_ (ld_blt I hg hm PyProof.Rows.boot_zip ?_)⟩
  refine PyProof.Rows.callWith_type1 (thn (ha.run pos pins s σ H _ I h) fun us s1 ⟨vs, H1, I1, rv, a, b, xs, ys, ev, qa, qb, q⟩ => ?_) hs hpl
  subst ev
  obtain ⟨rfl⟩ : us = [.ref a, .ref b] := by
    cases rv with
    | cons r t =>
      cases t with
      | cons r2 t2 =>
        cases t2
        cases r
        cases r2
        rfl
  obtain ⟨its, _, pa, _⟩ := I1.list qa
  obtain ⟨its2, _, pb, _⟩ := I1.list qb
  refine call_zip_2 pa.isList pb.isList fun u uz uI uO u1 u2 _ uk => iter_zip uz ?_
  have fp : ∀ c ∈ [s1.heap.objs.size + 4, s1.heap.objs.size + 2, s1.heap.objs.size + 3, s1.heap.objs.size, s1.heap.objs.size + 1], FpOk X pins H1 c := fun c hc => by
    have hle : s1.heap.objs.size ≤ c := by
      simp only [List.mem_cons, List.not_mem_nil, or_false] at hc
      rcases hc with rfl | rfl | rfl | rfl | rfl
      all_goals first | exact Nat.le_refl _ | exact Nat.le_add_right _ _
    exact I1.fpOk hle (I1.hok.fresh hle)
  exact ⟨_, _, _, _, H1, rfl, I1.kept (t' := s1.toks) uk, turn_zipN (PySem.W.ktu_apart s1.heap.objs.size a b pa.lt pb.lt), ⟨.inl uz, uI, ⟨_, _, uO⟩, u1, u2⟩, fp, q⟩
end Dl

set_option Elab.async false
set_option linter.all false
set_option maxRecDepth 100000
set_option maxHeartbeats 4000000
/-! Dl: expressions keep what wE says: the walks, the induction. -/
namespace Dl
open PySem PySem.Spec PyProof.Rows L2
section
variable {g : Gb} {C : Ct} {Γ : Sc} {k : Nat} {X : Cx} {st : Option StA} {S0 H0 S H S1 H1 H' : Hp} {σ : L2.St} {δ : List Sl} {ex : XD → Prop} {P : R → Prop} {v x y : V} {a b : Addr} {xs ys : List D} {vs ws : List V}
/-! ### walks -/
theorem walkD_list {o : Bool} (hk : Ok st S H) (h : H a = some (.lst vs)) (n : ¬ isSt st a) (ho : S a ≠ none ∨ o = true ∨ H0 a ≠ none) (r : Reps g S xs vs) : WalkD g st H0 o S H (Itl g.K a) xs := by
  refine ⟨fun H' => SqL g.K H' a vs, YAt vs, by rw [← r.length]; exact walk_list, fun S' H' e1 e2 kp => SqL.of ?_, fun st' i S1 H1 v H2 o1 e1 hy hi => ?_⟩
  · cases q : S a with
    | some u =>
      have := hk.sub a u q
      rw [h] at this
      cases this
      exact e2 _ _ (e1 _ _ q)
    | none => exact kp a _ h q n (ho.resolve_left fun z => z q)
  · obtain ⟨rfl, hy⟩ := hy
    obtain ⟨d, h1, h2⟩ := (Reps.mono e1 xs vs r).get hy
    exact ⟨S1, d, Step.refl o1, h1, h2⟩
theorem walkD_tup {o : Bool} (h : SqT g.K S a vs) (r : Reps g S xs vs) : WalkD g st H0 o S H (Itt g.K a) xs := by
  refine ⟨fun H' => SqT g.K H' a vs, YAt vs, by rw [← r.length]; exact walk_tup, fun S' H' e1 e2 kp => e2.t (e1.t h), fun st' i S1 H1 v H2 o1 e1 hy hi => ?_⟩
  obtain ⟨rfl, hy⟩ := hy
  obtain ⟨d, h1, h2⟩ := (Reps.mono e1 xs vs r).get hy
  exact ⟨S1, d, Step.refl o1, h1, h2⟩
theorem walkD_frl {o : Bool} (h : SqL g.K S a vs) (r : Reps g S xs vs) : WalkD g st H0 o S H (Itl g.K a) xs := by
  refine ⟨fun H' => SqL g.K H' a vs, YAt vs, by rw [← r.length]; exact walk_list, fun S' H' e1 e2 kp => e2.l (e1.l h), fun st' i S1 H1 v H2 o1 e1 hy hi => ?_⟩
  obtain ⟨rfl, hy⟩ := hy
  obtain ⟨d, h1, h2⟩ := (Reps.mono e1 xs vs r).get hy
  exact ⟨S1, d, Step.refl o1, h1, h2⟩
theorem walkD_str {o : Bool} {z : Str} : WalkD g st H0 o S H (Its z) (z.cps.toList.map fun c => .str ⟨#[c]⟩) := by
  refine ⟨fun _ => True, fun i H v H' => H' = H ∧ ∃ c, z.cps[i]? = some c ∧ v = .str ⟨#[c]⟩, ?_, fun _ _ _ _ _ => trivial, fun st' i S1 H1 v H2 o1 e1 hy hi => ?_⟩
  · have := walk_str (z := z)
    rw [List.length_map, Array.length_toList]
    exact this
  · obtain ⟨rfl, c, hc, rfl⟩ := hy
    refine ⟨S1, .str ⟨#[c]⟩, Step.refl o1, ?_, by simp only [Rep]⟩
    rw [List.getElem?_map]
    simp [hc]
theorem walkD_range {o : Bool} {lo : Int} {n : Nat} : WalkD g st H0 o S H (Itr lo n) ((List.range n).map fun i => .int (lo + (i : Nat))) := by
  refine ⟨fun _ => True, YFn fun i => .int (lo + (i : Nat)), ?_, fun _ _ _ _ _ => trivial, fun st' i S1 H1 v H2 o1 e1 hy hi => ?_⟩
  · rw [List.length_map, List.length_range]
    exact walk_range
  · obtain ⟨rfl, rfl⟩ := hy
    rw [List.length_map, List.length_range] at hi
    exact ⟨S1, .int (lo + (i : Nat)), Step.refl o1, by simp [hi], by simp only [Rep]⟩
theorem pair_step {T : Addr} {d e : D} (o1 : Ok st S1 H1) (n : H1 T = none) (h1 : Rep g S1 d x) (h2 : Rep g S1 e y) : ∃ S2, Step st S1 H1 S2 (upd H1 T (.tup [x, y])) ∧ Rep g S2 (.tup [d, e]) (.ref T) := by
  refine ⟨_, Step.new o1 n, ?_⟩
  simp only [Rep]
  have e0 := Ex.new (o := HO.tup [x, y]) (o1.sub.none n)
  exact ⟨T, [x, y], rfl, SqT.of upd_same, Reps.cons (Rep.mono e0 _ _ h1) (Reps.one (Rep.mono e0 _ _ h2))⟩
theorem enumD_length : (enumD xs).length = xs.length := by unfold enumD; simp
theorem enumD_get {i : Nat} {d : D} (h : xs[i]? = some d) : (enumD xs)[i]? = some (.tup [.int (i : Nat), d]) := by
  have hi := (List.getElem?_eq_some_iff.mp h).1
  unfold enumD
  rw [List.getElem?_zipWith, List.getElem?_range hi, h]
theorem walkD_enumL {o : Bool} (hk : Ok st S H) (h : H a = some (.lst vs)) (n : ¬ isSt st a) (ho : S a ≠ none ∨ o = true ∨ H0 a ≠ none) (r : Reps g S xs vs) : WalkD g st H0 o S H (Ite g.K a) (enumD xs) := by
  refine ⟨fun H' => SqL g.K H' a vs, _, by rw [enumD_length, ← r.length]; exact walk_enum, fun S' H' e1 e2 kp => SqL.of ?_, fun st' i S1 H1 v H2 o1 e1 hy hi => ?_⟩
  · cases q : S a with
    | some u =>
      have := hk.sub a u q
      rw [h] at this
      cases this
      exact e2 _ _ (e1 _ _ q)
    | none => exact kp a _ h q n (ho.resolve_left fun z => z q)
  · obtain ⟨T, u, w, rfl, n, rfl, e2, e3⟩ := hy
    cases e2
    obtain ⟨d, h1, h2⟩ := (Reps.mono e1 xs vs r).get e3
    obtain ⟨S2, s2, r2⟩ := pair_step (st := st') o1 n (d := .int (i : Nat)) (x := .int (i : Nat)) (by simp only [Rep]) h2
    exact ⟨S2, _, s2, enumD_get h1, r2⟩
theorem walk_enumT {K : PySem.W.Frag} : L2.Walk (IteT K a) vs.length (fun H => SqT K H a vs) (YPair (fun i => some (.int (i : Nat))) (fun i => vs[i]?)) := by
  refine ⟨fun i _ hi q => ⟨vs, vs[i], q, by simp [hi]⟩, fun _ q => ⟨vs, q, rfl⟩, fun i H v H' _ q y => ?_⟩
  obtain ⟨T, x, h1, h2, h3, h4⟩ := y
  exact ⟨T, .int (i : Nat), x, h1, h2, h3, rfl, h4 vs q⟩
theorem walkD_enumT {o : Bool} (h : SqT g.K S a vs) (r : Reps g S xs vs) : WalkD g st H0 o S H (IteT g.K a) (enumD xs) := by
  refine ⟨fun H' => SqT g.K H' a vs, _, by rw [enumD_length, ← r.length]; exact walk_enumT, fun S' H' e1 e2 kp => e2.t (e1.t h), fun st' i S1 H1 v H2 o1 e1 hy hi => ?_⟩
  obtain ⟨T, u, w, rfl, n, rfl, e2, e3⟩ := hy
  cases e2
  obtain ⟨d, h1, h2⟩ := (Reps.mono e1 xs vs r).get e3
  obtain ⟨S2, s2, r2⟩ := pair_step (st := st') o1 n (d := .int (i : Nat)) (x := .int (i : Nat)) (by simp only [Rep]) h2
  exact ⟨S2, _, s2, enumD_get h1, r2⟩
theorem zipD_get {i : Nat} {d e : D} (h : xs[i]? = some d) (h' : ys[i]? = some e) : (zipD xs ys)[i]? = some (.tup [d, e]) := by
  unfold zipD
  rw [List.getElem?_zipWith, h, h']
theorem walkD_zipL {o : Bool} (hk : Ok st S H) (h : S a = some (.lst vs)) (h' : S b = some (.lst ws)) (r : Reps g S xs vs) (r' : Reps g S ys ws) : WalkD g st H0 o S H (Itz g.K a b) (zipD xs ys) := by
  refine ⟨fun H' => SqL g.K H' a vs ∧ SqL g.K H' b ws, _, walk_zip (by unfold zipD; rw [List.length_zipWith, ← r.length, ← r'.length]), fun S' H' e1 e2 kp => ⟨SqL.of (e2 _ _ (e1 _ _ h)), SqL.of (e2 _ _ (e1 _ _ h'))⟩, fun st' i S1 H1 v H2 o1 e1 hy hi => ?_⟩
  obtain ⟨T, u, w, rfl, n, rfl, e2, e3⟩ := hy
  obtain ⟨d, h1, h2⟩ := (Reps.mono e1 xs vs r).get e2
  obtain ⟨d', h3, h4⟩ := (Reps.mono e1 ys ws r').get e3
  obtain ⟨S2, s2, r2⟩ := pair_step (st := st') o1 n h2 h4
  exact ⟨S2, _, s2, zipD_get h1 h3, r2⟩
theorem walk_zipT {K : PySem.W.Frag} {n : Nat} (hn : n = min vs.length ws.length) : L2.Walk (RZ.ItzT K a b) n (fun H => SqT K H a vs ∧ SqT K H b ws) (YPair (fun i => vs[i]?) (fun i => ws[i]?)) := by
  subst hn
  refine ⟨fun i _ hi q => ?_, fun _ q => ⟨vs, ws, q.1, q.2, by omega⟩, fun i H v H' _ q y => ?_⟩
  · have h1 : i < vs.length := by omega
    have h2 : i < ws.length := by omega
    exact ⟨vs, ws, vs[i], ws[i], q.1, q.2, by simp [h1], by simp [h2]⟩
  · obtain ⟨T, x, z, h1, h2, h3, h4, h5⟩ := y
    exact ⟨T, x, z, h1, h2, h3, h4 vs q.1, h5 ws q.2⟩
theorem walkD_zipT {o : Bool} (h : SqT g.K S a vs) (h' : SqT g.K S b ws) (r : Reps g S xs vs) (r' : Reps g S ys ws) : WalkD g st H0 o S H (RZ.ItzT g.K a b) (zipD xs ys) := by
  refine ⟨fun H' => SqT g.K H' a vs ∧ SqT g.K H' b ws, _, walk_zipT (by unfold zipD; rw [List.length_zipWith, ← r.length, ← r'.length]), fun S' H' e1 e2 kp => ⟨e2.t (e1.t h), e2.t (e1.t h')⟩, fun st' i S1 H1 v H2 o1 e1 hy hi => ?_⟩
  obtain ⟨T, u, w, rfl, n, rfl, e2, e3⟩ := hy
  obtain ⟨d, h1, h2⟩ := (Reps.mono e1 xs vs r).get e2
  obtain ⟨d', h3, h4⟩ := (Reps.mono e1 ys ws r').get e3
  obtain ⟨S2, s2, r2⟩ := pair_step (st := st') o1 n h2 h4
  exact ⟨S2, _, s2, zipD_get h1 h3, r2⟩
theorem walkD_rev {o : Bool} (hk : Ok st S H) (h : H a = some (.lst vs)) (n : ¬ isSt st a) (ho : S a ≠ none ∨ o = true ∨ H0 a ≠ none) (r : Reps g S xs vs) : WalkD g st H0 o S H (Itv g.K a vs.length) xs.reverse := by
  refine ⟨fun H' => SqL g.K H' a vs, _, by rw [List.length_reverse, ← r.length]; exact walk_rev, fun S' H' e1 e2 kp => SqL.of ?_, fun st' i S1 H1 v H2 o1 e1 hy hi => ?_⟩
  · cases q : S a with
    | some u =>
      have := hk.sub a u q
      rw [h] at this
      cases this
      exact e2 _ _ (e1 _ _ q)
    | none => exact kp a _ h q n (ho.resolve_left fun z => z q)
  · obtain ⟨rfl, hy⟩ := hy
    obtain ⟨d, h1, h2⟩ := (Reps.mono e1 xs vs r).get hy
    refine ⟨S1, d, Step.refl o1, ?_, h2⟩
    rw [List.length_reverse] at hi
    rw [List.getElem?_reverse hi, ← r.length]
    exact h1
/-- where a list that is read stands -/
theorem RepR.lvo {r : R} {HS : Hp} (h : RepR g st H0 S HS H r v) (o : Ok st S H) (e : r.lv = some xs) :
    ∃ l vs, v = .ref l ∧ H l = some (.lst vs) ∧ ¬ isSt st l ∧ Reps g S xs vs ∧ ((∃ d, r = .val d ∧ S l = some (.lst vs)) ∨ (∃ ys, r = .fresh ys ∧ S l = none ∧ HS l = none) ∨ ∃ b ys, r = .brw b ys ∧ (S l ≠ none ∨ b = true ∨ H0 l ≠ none)) := by
  cases r with
  | val d =>
    cases d with
    | lst ys =>
      cases e
      simp only [RepR, Rep] at h
      obtain ⟨a, vs, h1, h2, h3⟩ := h
      exact ⟨a, vs, h1, o.sub _ _ h2, notSt o h2, h3, .inl ⟨_, rfl, h2⟩⟩
    | _ => cases e
  | fresh ys =>
    cases e
    obtain ⟨l, vs, h1, h2, h3, h4, h5, h6⟩ := h
    exact ⟨l, vs, h1, h2, h5, h6, .inr (.inl ⟨_, rfl, h3, h4⟩)⟩
  | brw b ys =>
    cases e
    obtain ⟨l, vs, h1, h2, h3, h4, h5⟩ := h
    refine ⟨l, vs, h1, h2, h3, h5, .inr (.inr ⟨_, _, rfl, ?_⟩)⟩
    cases q : S l with
    | some u => exact .inl fun z => by cases z
    | none =>
      cases b with
      | true => exact .inr (.inl rfl)
      | false => exact .inr (.inr (h4 rfl q))
  | _ => cases e
end
end Dl

set_option Elab.async false
set_option linter.all false
set_option maxRecDepth 100000
set_option maxHeartbeats 4000000
/-! Dl: the induction over expressions. -/
namespace Dl
open PySem PySem.Spec PyProof.Rows L2
section
variable (g : Gb) (C : Ct)
def SndE (ir : E) : Prop := ∀ {Γ : Sc} {k : Nat} {X : Cx} {e : Expr} {st sx : Option StA} {S0 H0 S H : Hp} {σ : L2.St} {δ : List Sl} {ex : XD → Prop} {P : R → Prop}, chkE C.free Γ ir e = true → Hyp g C Γ k X st sx S0 H0 S H σ δ ex → Fit st sx (costE C ir) → wE C ir δ P ex → RunE X e σ H (Post g (up st (costE C ir)) H0 S H P)
def SndEs (ir : E) : Prop := ∀ {Γ : Sc} {k : Nat} {X : Cx} {es : List Expr} {st sx : Option StA} {S0 H0 S H : Hp} {σ : L2.St} {δ : List Sl} {ex : XD → Prop} {P : List R → Prop}, chkEs C.free Γ ir es = true → Hyp g C Γ k X st sx S0 H0 S H σ δ ex → Fit st sx (costE C ir) → wEs C ir δ P ex → RunA X es σ H (PostA g (up st (costE C ir)) H0 S H P)
def SndT (ir : E) : Prop := ∀ {Γ : Sc} {k : Nat} {X : Cx} {e : Expr} {st sx : Option StA} {S0 H0 S H : Hp} {σ : L2.St} {δ : List Sl} {ex : XD → Prop} {P : Bool → Prop}, chkT C.free Γ ir e = true → Hyp g C Γ k X st sx S0 H0 S H σ δ ex → Fit st sx (costE C ir) → wT C ir δ P ex → RunT X e σ H (PostT (up st (costE C ir)) S H P)
def SndC (ir : E) : Prop := ∀ {Γ : Sc} {k : Nat} {X : Cx} {es : List Expr} {st sx : Option StA} {S0 H0 S H : Hp} {σ : L2.St} {δ : List Sl} {ex : XD → Prop} {P : Bool → Prop}, chkC C.free Γ ir es = true → Hyp g C Γ k X st sx S0 H0 S H σ δ ex → Fit st sx (costE C ir) → wC C ir δ P ex → RunC X es σ H (PostT (up st (costE C ir)) S H P)
def SndO (ir : E) : Prop := ∀ {Γ : Sc} {k : Nat} {X : Cx} {e : Option Expr} {st sx : Option StA} {S0 H0 S H : Hp} {σ : L2.St} {δ : List Sl} {ex : XD → Prop} {P : Option Int → Prop}, chkO C.free Γ ir e = true → Hyp g C Γ k X st sx S0 H0 S H σ δ ex → Fit st sx (costE C ir) → wO C ir δ P ex → RunO X e σ H (PostO (up st (costE C ir)) S H P)
def SndI (ir : E) : Prop := ∀ {Γ : Sc} {k : Nat} {X : Cx} {tg e : Expr} {st sx : Option StA} {S0 H0 S H : Hp} {σ : L2.St} {δ : List Sl} {ex : XD → Prop} {P : Bool → List D → Prop}, chkIt C.free Γ ir tg e = true → Hyp g C Γ k X st sx S0 H0 S H σ δ ex → Fit st sx (costE C ir) → wIt C ir δ P ex → RunI X tg e σ H (PostI g (up st (costE C ir)) H0 S H P)
structure Snd (ir : E) : Prop where
  e : SndE g C ir
  es : SndEs g C ir
  t : SndT g C ir
  c : SndC g C ir
  o : SndO g C ir
  i : SndI g C ir
end
section
variable {g : Gb} {C : Ct} {Γ : Sc} {k : Nat} {X : Cx} {st sx : Option StA} {S0 H0 S H S1 H1 H' : Hp} {σ : L2.St} {δ : List Sl} {ex : XD → Prop} {P : R → Prop} {v x y : V}
theorem RunI.mono {tg e : Expr} {Q Q' : It → Hp → Prop} (h : RunI X tg e σ H Q) (f : ∀ v H', Q v H' → Q' v H') : RunI X tg e σ H Q' := fun pins s I => thn (h pins s I) fun _ _ h => thn h fun _ _ ⟨it, fp, tn, J, H', a, b, c, d, e, q⟩ => ⟨it, fp, tn, J, H', a, b, c, d, e, f J H' q⟩
theorem RunC.mono {es : List Expr} {Q Q' : Bool → Hp → Prop} (h : RunC X es σ H Q) (f : ∀ v H', Q v H' → Q' v H') : RunC X es σ H Q' := fun pins s I => thn (h pins s I) fun _ _ ⟨H', I', q⟩ => ⟨H', I', f _ H' q⟩
theorem RunO.mono {e : Option Expr} {Q Q' : Option Int → Hp → Prop} (h : RunO X e σ H Q) (f : ∀ v H', Q v H' → Q' v H') : RunO X e σ H Q' := by
  cases e with
  | none => exact f none H h
  | some e => exact RunE.mono (show RunE X e σ H _ from h) fun v H' ⟨i, e, q⟩ => ⟨i, e, f _ _ q⟩
theorem CxOk.gl {x : Str} (c : CxOk g k X) (h : g.mg x = none) : X.mg x = none := by rw [c.mg]; exact h

theorem nb {b : Bool} (h : (!b) = true) : b = false := by cases b <;> simp_all
/-! ### single rules -/
theorem sndE_var {i : Nat} : SndE g C (.var i) := by
  intro Γ k X e st sx S0 H0 S H σ δ ex P hc hh ft hw
  show RunE X _ σ H (Post g (up st 0) H0 S H P)
  rw [up_zero]
  cases e <;> try (simp [chkE] at hc; done)
  rename_i x p
  simp only [chkE] at hc
  obtain ⟨h1, h2⟩ := ba hc
  obtain ⟨h1, h3⟩ := ba h1
  obtain ⟨h1, h4⟩ := ba h1
  simp only [wE] at hw
  split at hw
  · rename_i r e1
    obtain ⟨v, e2, q⟩ := var_ok hh.env hh.o hh.fr e1 hw
    refine RunE.of (pe_var (i := i) (by rw [hh.cx.N]; exact eq_of_beq h1) (by rw [hh.cx.sc]; exact visB_ok h4) (noDbg_ok h3) ?_) ⟨v, e2, q⟩
    cases q2 : (x == ("__classdict__" : Str)) with
    | false => rfl
    | true => rw [q2] at h2; cases h2
  · exact hw.elim
theorem sndE_sgc {i : Nat} : SndE g C (.sgc i) := by
  intro Γ k X e st sx S0 H0 S H σ δ ex P hc hh ft hw
  show RunE X _ σ H (Post g (up st 0) H0 S H P)
  rw [up_zero]
  cases e <;> try (simp [chkE] at hc; done)
  rename_i o y p
  cases o <;> try (simp [chkE] at hc; done)
  cases y <;> try (simp [chkE] at hc; done)
  rename_i x px c j pc
  cases c <;> try (simp [chkE] at hc; done)
  simp only [chkE] at hc
  obtain ⟨hc1, h0⟩ := ba hc
  obtain ⟨hc2, h2⟩ := ba hc1
  obtain ⟨hc3, h3⟩ := ba hc2
  obtain ⟨h1, h4⟩ := ba hc3
  have e0 := eq_of_beq h0
  subst e0
  simp only [wE] at hw
  split at hw
  · rename_i q
    obtain ⟨_, L, f1, _⟩ := hh.env
    obtain ⟨t, e1, e2⟩ := f1 i _ q
    subst e1
    obtain ⟨gs, cs, r, n, k1, k2, k3, k4, k5⟩ := hh.o.st
    refine RunE.of (pe_dget (by have := hh.cx.ok.room.units; omega) (pe_var (i := i) (by rw [hh.cx.N]; exact eq_of_beq h1) (by rw [hh.cx.sc]; exact visB_ok h4) (noDbg_ok h3) (nb h2)) pe_str (fun _ _ => rfl)) ?_
    refine ⟨_, e2, t.a, .ref t.c, rfl, ?_, ?_⟩
    · have := DGet.k (k := .inr "cells") k1
      exact this
    · refine Post.val hh.o ?_ (hw cs)
      simp only [Rep]
      exact ⟨t.c, _, rfl, k3, Reps.of_ints⟩
  · exact hw.elim
theorem sndE_cst {c : Cst} : SndE g C (.cst c) := by
  intro Γ k X e st sx S0 H0 S H σ δ ex P hc hh ft hw
  show RunE X _ σ H (Post g (up st 0) H0 S H P)
  rw [up_zero]
  cases e <;> try (cases c <;> (simp [chkE] at hc; done))
  rename_i x j p
  simp only [wE] at hw
  cases c with
  | non =>
    cases x <;> try (simp [chkE] at hc; done)
    exact RunE.of pe_non (Post.val hh.o (by simp only [Rep, Cst.d]) hw)
  | bl b =>
    cases x <;> try (simp [chkE] at hc; done)
    simp only [chkE] at hc
    cases eq_of_beq hc
    exact RunE.of pe_bl (Post.val hh.o (by simp only [Rep, Cst.d]) hw)
  | int b =>
    cases x <;> try (simp [chkE] at hc; done)
    simp only [chkE] at hc
    cases eq_of_beq hc
    exact RunE.of pe_int (Post.val hh.o (by simp only [Rep, Cst.d]) hw)
  | str b =>
    cases x <;> try (simp [chkE] at hc; done)
    simp only [chkE] at hc
    cases eq_of_beq hc
    exact RunE.of pe_str (Post.val hh.o (by simp only [Rep, Cst.d]) hw)
theorem sndE_glc {y : Str} : SndE g C (.glc y) := by
  intro Γ k X e st sx S0 H0 S H σ δ ex P hc hh ft hw
  show RunE X _ σ H (Post g (up st 0) H0 S H P)
  rw [up_zero]
  cases e <;> try (simp [chkE] at hc; done)
  rename_i x p
  simp only [chkE] at hc
  obtain ⟨h1, h2⟩ := ba hc
  obtain ⟨h1, h3⟩ := ba h1
  cases eq_of_beq h2
  simp only [wE] at hw
  split at hw
  · rename_i c e1
    obtain ⟨u, e2, r⟩ := hh.ct.gc _ _ e1
    refine RunE.of (pe_glob (glB_ok hh.cx h1) (by rw [hh.cx.ok.mg]; exact e2) r (noDbg_ok h3)) (Post.val hh.o ?_ hw)
    cases c <;> simp only [Rep, Cst.d, Cst.v]
  · exact hw.elim
theorem sndE_bin {o : BinO} {a b : E} (ha : SndE g C a) (hb : SndE g C b) : SndE g C (.bin o a b) := by
  intro Γ k X e st sx S0 H0 S H σ δ ex P hc hh ft hw
  cases e <;> try (simp [chkE] at hc; done)
  rename_i x op y p
  simp only [chkE] at hc
  obtain ⟨h1, h2⟩ := ba hc
  obtain ⟨h1, h3⟩ := ba h1
  have h1 := of_decide_eq_true h1
  subst h1
  simp only [wE] at hw
  refine RunE.of (pe_op opW_ok pe_run pe_run) ?_
  refine (ha h3 hh ft.l hw).mono fun v1 H1 ⟨S1, ra, s1, r1, w1⟩ => ?_
  refine (hb h2 (hh.next s1) ft.r w1).mono fun v2 H2 ⟨S2, rb, s2, r2, w2⟩ => ?_
  exact (bin_ok (H0 := H0) s2.ok (r1.stp s1.ok s2) r2 w2).mono fun v H' p => (p.up hh.o.up.up (s1.tr s2)).c2
theorem sndE_neg {a : E} (ha : SndE g C a) : SndE g C (.neg a) := by
  intro Γ k X e st sx S0 H0 S H σ δ ex P hc hh ft hw
  cases e <;> try (simp [chkE] at hc; done)
  rename_i op x p
  cases op <;> try (simp [chkE] at hc; done)
  simp only [chkE] at hc
  simp only [wE] at hw
  refine RunE.of (pe_un un_neg pe_run) ?_
  refine (ha hc hh ft hw).mono fun v1 H1 ⟨S1, ra, s1, r1, w1⟩ => ?_
  dsimp only at w1
  split at w1
  · rename_i i
    simp only [RepR, Rep] at r1
    subst r1
    exact ⟨i, rfl, (Post.val s1.ok (by simp only [Rep]) w1 : Post g _ H0 S1 H1 P _ H1).up hh.o.up s1⟩
  · exact w1.elim
theorem lastM {op op' : CmpOp} {y z : Expr} (h : behindInMarks op' z = false) : lastMarks [op, op'] [y, z] = false := h
theorem sndE_cmp {o : CmO} {a b : E} (ha : SndE g C a) (hb : SndE g C b) : SndE g C (.cmp o a b) := by
  intro Γ k X e st sx S0 H0 S H σ δ ex P hc hh ft hw
  cases e <;> try (simp [chkE] at hc; done)
  rename_i x ops ys p
  rcases ops with _ | ⟨op, _ | _⟩ <;> try (simp [chkE] at hc; done)
  rcases ys with _ | ⟨y, _ | _⟩ <;> try (simp [chkE] at hc; done)
  simp only [chkE] at hc
  obtain ⟨h1, h2⟩ := ba hc
  obtain ⟨h1, h3⟩ := ba h1
  obtain ⟨h1, h4⟩ := ba h1
  have h1 := of_decide_eq_true h1
  subst h1
  simp only [wE] at hw
  refine RunE.of (pe_cmpR opW_ok pe_run pe_run (nb h4)) ?_
  refine (ha h3 hh ft.l hw).mono fun v1 H1 ⟨S1, ra, s1, r1, w1⟩ => ?_
  refine (hb h2 (hh.next s1) ft.r w1).mono fun v2 H2 ⟨S2, rb, s2, r2, w2⟩ => ?_
  exact (cmp_ok (H0 := H0) hh.cx.ok s2.ok (r1.stp s1.ok s2) r2 w2).mono fun v H' p => (p.up hh.o.up.up (s1.tr s2)).c2
theorem sndT_cmp {o : CmO} {a b : E} (ha : SndE g C a) (hb : SndE g C b) : SndT g C (.cmp o a b) := by
  intro Γ k X e st sx S0 H0 S H σ δ ex P hc hh ft hw
  cases e <;> try (simp [chkT] at hc; done)
  rename_i x ops ys p
  rcases ops with _ | ⟨op, _ | _⟩ <;> try (simp [chkT] at hc; done)
  rcases ys with _ | ⟨y, _ | _⟩ <;> try (simp [chkT] at hc; done)
  simp only [chkT] at hc
  obtain ⟨h1, h2⟩ := ba hc
  obtain ⟨h1, h3⟩ := ba h1
  obtain ⟨h1, h4⟩ := ba h1
  have h1 := of_decide_eq_true h1
  subst h1
  simp only [wT] at hw
  refine RunT.of (pt_cmpR opW_ok pe_run pe_run (nb h4)) ?_
  refine (ha h3 hh ft.l hw).mono fun v1 H1 ⟨S1, ra, s1, r1, w1⟩ => ?_
  refine (hb h2 (hh.next s1) ft.r w1).mono fun v2 H2 ⟨S2, rb, s2, r2, w2⟩ => ?_
  refine (cmp_ok (H0 := H0) hh.cx.ok s2.ok (r1.stp s1.ok s2) r2 w2).mono fun v H' ⟨S3, r, s3, r3, w3⟩ => ?_
  dsimp only at w3
  split at w3
  · rename_i c
    simp only [RepR, Rep] at r3
    exact ⟨c, r3, S3, ((s1.tr s2).trans s3).c2, w3⟩
  · exact w3.elim
theorem sndE_chn {o p : CmO} {a b c : E} (ha : SndE g C a) (hb : SndE g C b) (hc' : SndE g C c) : SndE g C (.chn o p a b c) := by
  intro Γ k X e st sx S0 H0 S H σ δ ex P hc hh ft hw
  cases e <;> try (simp [chkE] at hc; done)
  rename_i x ops ys pp
  rcases ops with _ | ⟨op, _ | ⟨op', _ | _⟩⟩ <;> try (simp [chkE] at hc; done)
  rcases ys with _ | ⟨y, _ | ⟨z, _ | _⟩⟩ <;> try (simp [chkE] at hc; done)
  simp only [chkE] at hc
  obtain ⟨h1, h2⟩ := ba hc
  obtain ⟨h1, h3⟩ := ba h1
  obtain ⟨h1, h4⟩ := ba h1
  obtain ⟨h1, h5⟩ := ba h1
  obtain ⟨h1, h6⟩ := ba h1
  have h1 := of_decide_eq_true h1
  have h6 := of_decide_eq_true h6
  subst h1 h6
  simp only [wE] at hw
  refine RunE.of (pe_chain opW_ok opW_ok pe_run pe_run pe_run (lastM (nb h5))) ?_
  refine (ha h4 hh ft.l.l hw).mono fun v1 H1 ⟨S1, ra, s1, r1, w1⟩ => ?_
  refine (hb h3 (hh.next s1) ft.l.r w1).mono fun v2 H2 ⟨S2, rb, s2, r2, w2⟩ => ?_
  refine (cmp_ok (H0 := H0) hh.cx.ok s2.ok (r1.stp s1.ok s2) r2 w2).mono fun v H3 ⟨S3, r, s3, r3, w3⟩ => ?_
  dsimp only at w3
  split at w3
  · simp only [RepR, Rep] at r3
    refine ⟨true, r3, ?_⟩
    rw [if_pos rfl]
    refine (hc' h2 ((hh.next s1).next (s2.trans s3)) ft.r3 w3).mono fun v4 H4 ⟨S4, rc, s4, r4, w4⟩ => ?_
    exact (cmp_ok (H0 := H0) hh.cx.ok s4.ok ((r2.step s2.ok s3).stp s3.ok s4) r4 w4).mono fun v H' p => (p.up hh.o.up.up.up ((s1.tr (s2.trans s3)).tr s4)).c3
  · simp only [RepR, Rep] at r3
    refine ⟨false, r3, ?_⟩
    rw [if_neg (by simp)]
    exact ((Post.val s3.ok (by simp only [Rep]) w3 : Post g _ H0 S3 H3 P _ H3).up hh.o.up.up (s1.tr (s2.trans s3))).c2.le (Nat.le_add_right ..)
  · exact w3.elim
theorem sndT_chn {o p : CmO} {a b c : E} (ha : SndE g C a) (hb : SndE g C b) (hc' : SndE g C c) : SndT g C (.chn o p a b c) := by
  intro Γ k X e st sx S0 H0 S H σ δ ex P hc hh ft hw
  cases e <;> try (simp [chkT] at hc; done)
  rename_i x ops ys pp
  rcases ops with _ | ⟨op, _ | ⟨op', _ | _⟩⟩ <;> try (simp [chkT] at hc; done)
  rcases ys with _ | ⟨y, _ | ⟨z, _ | _⟩⟩ <;> try (simp [chkT] at hc; done)
  simp only [chkT] at hc
  obtain ⟨h1, h2⟩ := ba hc
  obtain ⟨h1, h3⟩ := ba h1
  obtain ⟨h1, h4⟩ := ba h1
  obtain ⟨h1, h5⟩ := ba h1
  obtain ⟨h1, h6⟩ := ba h1
  have h1 := of_decide_eq_true h1
  have h6 := of_decide_eq_true h6
  subst h1 h6
  simp only [wT] at hw
  refine RunT.of (pt_chain opW_ok opW_ok pe_run pe_run pe_run (lastM (nb h5))) ?_
  refine (ha h4 hh ft.l.l hw).mono fun v1 H1 ⟨S1, ra, s1, r1, w1⟩ => ?_
  refine (hb h3 (hh.next s1) ft.l.r w1).mono fun v2 H2 ⟨S2, rb, s2, r2, w2⟩ => ?_
  refine (cmp_ok (H0 := H0) hh.cx.ok s2.ok (r1.stp s1.ok s2) r2 w2).mono fun v H3 ⟨S3, r, s3, r3, w3⟩ => ?_
  dsimp only at w3
  split at w3
  · simp only [RepR, Rep] at r3
    refine ⟨true, r3, ?_⟩
    rw [if_pos rfl]
    refine (hc' h2 ((hh.next s1).next (s2.trans s3)) ft.r3 w3).mono fun v4 H4 ⟨S4, rc, s4, r4, w4⟩ => ?_
    refine (cmp_ok (H0 := H0) hh.cx.ok s4.ok ((r2.step s2.ok s3).stp s3.ok s4) r4 w4).mono fun v H5 ⟨S5, r, s5, r5, w5⟩ => ?_
    dsimp only at w5
    split at w5
    · rename_i c
      simp only [RepR, Rep] at r5
      exact ⟨c, r5, S5, (((s1.tr (s2.trans s3)).tr s4).trans s5).c3, w5⟩
    · exact w5.elim
  · simp only [RepR, Rep] at r3
    refine ⟨false, r3, ?_⟩
    rw [if_neg (by simp)]
    exact ⟨false, rfl, S3, (s1.tr (s2.trans s3)).c2.le (Nat.le_add_right ..), w3⟩
  · exact w3.elim
theorem sndE_and {a b : E} (ha : SndE g C a) (hb : SndE g C b) : SndE g C (.and_ a b) := by
  intro Γ k X e st sx S0 H0 S H σ δ ex P hc hh ft hw
  cases e <;> try (simp [chkE] at hc; done)
  rename_i op xs pp
  rcases op <;> try (simp [chkE] at hc; done)
  rcases xs with _ | ⟨x, _ | ⟨y, rest⟩⟩ <;> try (simp [chkE] at hc; done)
  simp only [chkE] at hc
  obtain ⟨h1, h2⟩ := ba hc
  simp only [wE] at hw
  refine RunE.of (pe_and pe_run pe_run) ?_
  refine (ha h1 hh ft.l hw).mono fun v1 H1 ⟨S1, ra, s1, r1, w1⟩ => ?_
  dsimp only at w1
  split at w1
  · simp only [RepR, Rep] at r1
    refine ⟨true, r1, ?_⟩
    rw [if_pos rfl]
    have z : RunE X (.BoolOp .And (y :: rest) pp) σ H1 (Post g (up (up st (costE C a)) (costE C b)) H0 S1 H1 P) := by
      cases rest with
      | nil => exact RunE.of (pe_one pe_run) (hb h2 (hh.next s1) ft.r w1)
      | cons _ _ => exact hb h2 (hh.next s1) ft.r w1
    exact z.mono fun v H' p => Post.tr hh.o s1 p
  · simp only [RepR, Rep] at r1
    refine ⟨false, r1, ?_⟩
    rw [if_neg (by simp)]
    exact ((Post.val s1.ok (by simp only [Rep]) w1 : Post g _ H0 S1 H1 P _ H1).up hh.o.up s1).le (Nat.le_add_right ..)
  · exact w1.elim
theorem sndE_or {a b : E} (ha : SndE g C a) (hb : SndE g C b) : SndE g C (.or_ a b) := by
  intro Γ k X e st sx S0 H0 S H σ δ ex P hc hh ft hw
  cases e <;> try (simp [chkE] at hc; done)
  rename_i op xs pp
  rcases op <;> try (simp [chkE] at hc; done)
  rcases xs with _ | ⟨x, _ | ⟨y, rest⟩⟩ <;> try (simp [chkE] at hc; done)
  simp only [chkE] at hc
  obtain ⟨h1, h2⟩ := ba hc
  simp only [wE] at hw
  refine RunE.of (pe_or pe_run pe_run) ?_
  refine (ha h1 hh ft.l hw).mono fun v1 H1 ⟨S1, ra, s1, r1, w1⟩ => ?_
  dsimp only at w1
  split at w1
  · simp only [RepR, Rep] at r1
    refine ⟨true, r1, ?_⟩
    rw [if_pos rfl]
    exact ((Post.val s1.ok (by simp only [Rep]) w1 : Post g _ H0 S1 H1 P _ H1).up hh.o.up s1).le (Nat.le_add_right ..)
  · simp only [RepR, Rep] at r1
    refine ⟨false, r1, ?_⟩
    rw [if_neg (by simp)]
    have z : RunE X (.BoolOp .Or (y :: rest) pp) σ H1 (Post g (up (up st (costE C a)) (costE C b)) H0 S1 H1 P) := by
      cases rest with
      | nil => exact RunE.of (pe_one pe_run) (hb h2 (hh.next s1) ft.r w1)
      | cons _ _ => exact hb h2 (hh.next s1) ft.r w1
    exact z.mono fun v H' p => Post.tr hh.o s1 p
  · exact w1.elim
theorem sndE_not {a : E} (ha : SndE g C a) : SndE g C (.not_ a) := by
  intro Γ k X e st sx S0 H0 S H σ δ ex P hc hh ft hw
  cases e <;> try (simp [chkE] at hc; done)
  rename_i op x p
  cases op <;> try (simp [chkE] at hc; done)
  simp only [chkE] at hc
  simp only [wE] at hw
  refine RunE.of (pe_not pe_run) ?_
  refine (ha hc hh ft hw).mono fun v1 H1 ⟨S1, ra, s1, r1, w1⟩ => ?_
  dsimp only at w1
  split at w1
  · rename_i i
    simp only [RepR, Rep] at r1
    exact ⟨i, r1, (Post.val s1.ok (by simp only [Rep]) w1 : Post g _ H0 S1 H1 P _ H1).up hh.o.up s1⟩
  · exact w1.elim
theorem sndE_ite {c a b : E} (hC : SndT g C c) (ha : SndE g C a) (hb : SndE g C b) : SndE g C (.ite c a b) := by
  intro Γ k X e st sx S0 H0 S H σ δ ex P hc hh ft hw
  cases e <;> try (simp [chkE] at hc; done)
  rename_i x y z p
  simp only [chkE] at hc
  obtain ⟨h1, h2⟩ := ba hc
  obtain ⟨h1, h3⟩ := ba h1
  simp only [wE] at hw
  refine RunE.of (pe_ifExp pt_run pe_run pe_run) ?_
  refine (hC h1 hh ft.l.l hw).mono fun t H1 ⟨S1, s1, w1⟩ => ?_
  cases t with
  | true =>
    rw [if_pos rfl]
    exact (ha h3 (hh.next s1) ft.l.r w1).mono fun v H' p => (Post.tr hh.o s1 p).le (Nat.le_add_right ..)
  | false =>
    rw [if_neg (by simp)]
    exact (hb h2 (hh.next s1) (Fit.le ft (show costE C c + costE C b ≤ costE C c + costE C a + costE C b by omega)).r w1).mono fun v H' p => (Post.tr hh.o s1 p).le (show costE C c + costE C b ≤ costE C c + costE C a + costE C b by omega)
/-! tests -/
theorem sndT_and {a b : E} (ha : SndT g C a) (hb : SndT g C b) : SndT g C (.and_ a b) := by
  intro Γ k X e st sx S0 H0 S H σ δ ex P hc hh ft hw
  cases e <;> try (simp [chkT] at hc; done)
  rename_i op xs pp
  rcases op <;> try (simp [chkT] at hc; done)
  rcases xs with _ | ⟨x, _ | ⟨y, rest⟩⟩ <;> try (simp [chkT] at hc; done)
  simp only [chkT] at hc
  obtain ⟨h1, h2⟩ := ba hc
  simp only [wT] at hw
  cases rest with
  | nil =>
    refine RunT.of (pw_and pt_run (pw_and1 pt_run)).pt ?_
    refine (ha h1 hh ft.l hw).mono fun t H1 ⟨S1, s1, w1⟩ => ?_
    cases t with
    | true => rw [if_pos rfl]; exact (hb h2 (hh.next s1) ft.r w1).mono fun v H' ⟨S2, s2, q⟩ => ⟨S2, (s1.tr s2).c2, q⟩
    | false => rw [if_neg (by simp)]; exact ⟨S1, s1.le (Nat.le_add_right ..), w1⟩
  | cons z rest =>
    have pw : PW X (.BoolOp .And (y :: z :: rest) pp) (RunT X (.BoolOp .And (y :: z :: rest) pp)) := ⟨fun wh pins s σ H Q I h => h pins s I⟩
    refine RunT.of (pw_and pt_run pw).pt ?_
    refine (ha h1 hh ft.l hw).mono fun t H1 ⟨S1, s1, w1⟩ => ?_
    cases t with
    | true => rw [if_pos rfl]; exact (hb h2 (hh.next s1) ft.r w1).mono fun v H' ⟨S2, s2, q⟩ => ⟨S2, (s1.tr s2).c2, q⟩
    | false => rw [if_neg (by simp)]; exact ⟨S1, s1.le (Nat.le_add_right ..), w1⟩
theorem sndT_or {a b : E} (ha : SndT g C a) (hb : SndT g C b) : SndT g C (.or_ a b) := by
  intro Γ k X e st sx S0 H0 S H σ δ ex P hc hh ft hw
  cases e <;> try (simp [chkT] at hc; done)
  rename_i op xs pp
  rcases op <;> try (simp [chkT] at hc; done)
  rcases xs with _ | ⟨x, _ | ⟨y, rest⟩⟩ <;> try (simp [chkT] at hc; done)
  simp only [chkT] at hc
  obtain ⟨h1, h2⟩ := ba hc
  simp only [wT] at hw
  cases rest with
  | nil =>
    refine RunT.of (pw_or pt_run (pw_or1 pt_run)).pt ?_
    refine (ha h1 hh ft.l hw).mono fun t H1 ⟨S1, s1, w1⟩ => ?_
    cases t with
    | false => rw [if_neg (by simp)]; exact (hb h2 (hh.next s1) ft.r w1).mono fun v H' ⟨S2, s2, q⟩ => ⟨S2, (s1.tr s2).c2, q⟩
    | true => rw [if_pos rfl]; exact ⟨S1, s1.le (Nat.le_add_right ..), w1⟩
  | cons z rest =>
    have pw : PW X (.BoolOp .Or (y :: z :: rest) pp) (RunT X (.BoolOp .Or (y :: z :: rest) pp)) := ⟨fun wh pins s σ H Q I h => h pins s I⟩
    refine RunT.of (pw_or pt_run pw).pt ?_
    refine (ha h1 hh ft.l hw).mono fun t H1 ⟨S1, s1, w1⟩ => ?_
    cases t with
    | false => rw [if_neg (by simp)]; exact (hb h2 (hh.next s1) ft.r w1).mono fun v H' ⟨S2, s2, q⟩ => ⟨S2, (s1.tr s2).c2, q⟩
    | true => rw [if_pos rfl]; exact ⟨S1, s1.le (Nat.le_add_right ..), w1⟩
theorem sndT_not {a : E} (ha : SndT g C a) : SndT g C (.not_ a) := by
  intro Γ k X e st sx S0 H0 S H σ δ ex P hc hh ft hw
  cases e <;> try (simp [chkT] at hc; done)
  rename_i op x p
  cases op <;> try (simp [chkT] at hc; done)
  simp only [chkT] at hc
  simp only [wT] at hw
  exact RunT.of (pt_not pt_run) (ha hc hh ft hw)
theorem tru_rep {r : R} {b : Bool} (ck : CxOk g k X) (o : Ok st S H) (h : RepR g st H0 S H1 H r v) (e : r.tru = some b) : TruV X.K v H b := by
  have hl : ∀ {xs : List D}, r.lv = some xs → b = !xs.isEmpty → TruV X.K v H b := by
    intro xs e1 e2
    obtain ⟨l, vs, rfl, h1, h2⟩ := h.lv o e1
    refine .inl ⟨vs, SqL.of h1, ?_⟩
    rw [e2]
    have := h2.length
    cases vs <;> cases xs <;> simp_all
  unfold R.tru at e
  split at e
  · cases e; simp only [RepR, Rep] at h; subst h; exact rfl
  · cases e; simp only [RepR, Rep] at h; subst h; exact rfl
  · cases e; simp only [RepR, Rep] at h; subst h; exact rfl
  · split at e
    · rename_i hz
      cases e
      simp only [RepR, Rep] at h
      subst h
      refine ⟨hz, ?_⟩
      rename_i s
      cases q : s.length <;> simp [bne, q] <;> omega
    · cases e
  · exact hl rfl (Option.some.inj e).symm
  · rename_i xs
    cases e
    simp only [RepR, Rep] at h
    obtain ⟨a, vs, rfl, h1, h2⟩ := h
    refine .inr (.inl ⟨vs, by rw [ck.K]; exact o.sub.t h1, ?_⟩)
    have := h2.length
    cases vs <;> cases xs <;> simp_all
  · exact hl rfl (Option.some.inj e).symm
  · exact hl rfl (Option.some.inj e).symm
  · cases e
theorem sndT_tr {a : E} (ha : SndE g C a) : SndT g C (.tr a) := by
  intro Γ k X e st sx S0 H0 S H σ δ ex P hc hh ft hw
  simp only [chkT] at hc
  obtain ⟨h1, h2⟩ := ba hc
  simp only [wT] at hw
  refine RunT.of (pt_truth pe_run (plainTest_is h1)) ?_
  refine (ha h2 hh ft hw).mono fun v1 H1 ⟨S1, ra, s1, r1, w1⟩ => ?_
  dsimp only at w1
  split at w1
  · rename_i b e1
    exact ⟨b, tru_rep hh.cx.ok s1.ok r1 e1, S1, s1, w1⟩
  · exact w1.elim
/-! rows -/
theorem sndEs_nil : SndEs g C .nil := by
  intro Γ k X es st sx S0 H0 S H σ δ ex P hc hh ft hw
  cases es <;> try (simp [chkEs] at hc; done)
  simp only [wEs] at hw
  exact RunA.of pa_nil ⟨S, [], (Step.refl hh.o).up, .nil, hw⟩
theorem sndEs_cons {a es : E} (ha : SndE g C a) (hb : SndEs g C es) : SndEs g C (.cons a es) := by
  intro Γ k X es st sx S0 H0 S H σ δ ex P hc hh ft hw
  cases es <;> try (simp [chkEs] at hc; done)
  simp only [chkEs] at hc
  obtain ⟨h1, h2⟩ := ba hc
  obtain ⟨h1, h3⟩ := ba h1
  simp only [wEs] at hw
  refine RunA.of (pa_cons pe_run pa_run (starEach_cons h1)) ?_
  refine (ha h3 hh ft.l hw).mono fun v1 H1 ⟨S1, ra, s1, r1, w1⟩ => ?_
  refine (hb h2 (hh.next s1) ft.r w1).mono fun vs H2 ⟨S2, rs, s2, r2, w2⟩ => ?_
  exact ⟨S2, _, (s1.tr s2).c2, by rw [show costE C (.cons a _) = costE C a + _ from rfl, ← up_up]; exact .cons (r1.stp s1.ok s2) (r2.since fun l e => Step.back hh.o.up s1 e), w2⟩
theorem sndC_nil : SndC g C .nil := by
  intro Γ k X es st sx S0 H0 S H σ δ ex P hc hh ft hw
  cases es <;> try (simp [chkC] at hc; done)
  simp only [wC] at hw
  exact RunC.of pts_nil ⟨S, (Step.refl hh.o).up, hw⟩
theorem sndC_cons {a : E} (ha : SndT g C a) : SndC g C (.cons a .nil) := by
  intro Γ k X es st sx S0 H0 S H σ δ ex P hc hh ft hw
  rcases es with _ | ⟨x, _ | _⟩ <;> try (simp [chkC] at hc; done)
  simp only [chkC] at hc
  simp only [wC] at hw
  exact RunC.of (pts_one pt_run) (by rw [show costE C (.cons a .nil) = costE C a from rfl] at ft ⊢; exact ha hc hh ft hw)
theorem sndO_nil : SndO g C .nil := by
  intro Γ k X es st sx S0 H0 S H σ δ ex P hc hh ft hw
  cases es <;> try (simp [chkO] at hc; done)
  simp only [wO] at hw
  exact ⟨S, (Step.refl hh.o).up, hw⟩
theorem sndO_cons {a : E} (ha : SndE g C a) : SndO g C (.cons a .nil) := by
  intro Γ k X es st sx S0 H0 S H σ δ ex P hc hh ft hw
  cases es <;> try (simp [chkO] at hc; done)
  simp only [chkO] at hc
  simp only [wO] at hw
  refine (ha hc hh (show Fit st sx (costE C a) from ft) hw).mono fun v1 H1 ⟨S1, ra, s1, r1, w1⟩ => ?_
  dsimp only at w1
  split at w1
  · rename_i i e1
    cases ra with
    | val d =>
      cases d <;> try (simp [R.int?] at e1; done)
      simp [R.int?] at e1
      subst e1
      simp only [RepR, Rep] at r1
      exact ⟨_, r1, S1, s1, w1⟩
    | _ => simp [R.int?] at e1
  · exact w1.elim
/-! displays -/
theorem ArgsR.reps : ∀ {ks : List Kd} {l : List R} {vs : List V}, (∀ k ∈ ks, k = .v) → ArgsR g st S H ks l vs → Reps g S (l.filterMap R.dat) vs ∧ (l.filterMap R.dat).length = l.length
  | ks, [], vs, hk, h => by cases h; exact ⟨Reps.nil, rfl⟩
  | ks, r :: l, vs, hk, h => by
    cases h with
    | @cons k _ v ks _ vs a b =>
      have e := hk k (by simp)
      subst e
      cases r <;> simp only [ArgR] at a
      have ih := ArgsR.reps (fun k hm => hk k (by simp [hm])) b
      exact ⟨Reps.cons a ih.1, by simp [R.dat, ih.2]⟩
theorem sndE_tup {es : E} (ha : SndEs g C es) : SndE g C (.tup es) := by
  intro Γ k X e st sx S0 H0 S H σ δ ex P hc hh ft hw
  cases e <;> try (simp [chkE] at hc; done)
  simp only [chkE] at hc
  simp only [wE] at hw
  refine RunE.of (pe_tup pa_run) ?_
  refine (ha hc hh ft hw).mono fun vs H1 ⟨S1, rs, s1, r1, w1⟩ => ?_
  dsimp only at w1
  split at w1
  · rename_i l e1
    obtain ⟨S2, a1, a2, a3, a4⟩ := args_ok r1 s1 s1.ok (Ex.refl _) e1
    obtain ⟨b1, b2⟩ := a3.reps (by intro k hk; simp at hk; exact hk.2.symm)
    refine ⟨by rw [b1.length, b2]; exact w1.1, fun p hp => ?_⟩
    exact (Post.tup a1.ok hp b1 w1.2 : Post g _ H0 S2 H1 P _ _).up hh.o.up a1
  · exact w1.elim
theorem sndE_lst {es : E} (ha : SndEs g C es) : SndE g C (.lst es) := by
  intro Γ k X e st sx S0 H0 S H σ δ ex P hc hh ft hw
  cases e <;> try (simp [chkE] at hc; done)
  simp only [chkE] at hc
  simp only [wE] at hw
  refine RunE.of (pe_lst pa_run) ?_
  refine (ha hc hh ft hw).mono fun vs H1 ⟨S1, rs, s1, r1, w1⟩ => ?_
  dsimp only at w1
  split at w1
  · rename_i l e1
    obtain ⟨S2, a1, a2, a3, a4⟩ := args_ok r1 s1 s1.ok (Ex.refl _) e1
    obtain ⟨b1, b2⟩ := a3.reps (by intro k hk; simp at hk; exact hk.2.symm)
    refine ⟨by rw [b1.length, b2]; exact w1.1, fun p hp => ?_⟩
    exact (Post.list a1.ok hp b1 w1.2 : Post g _ H0 S2 H1 P _ _).up hh.o.up a1
  · exact w1.elim
/-! items, slices -/
theorem sndE_idx {a b : E} (ha : SndE g C a) (hb : SndE g C b) : SndE g C (.idx a b) := by
  intro Γ k X e st sx S0 H0 S H σ δ ex P hc hh ft hw
  cases e <;> try (simp [chkE] at hc; done)
  rename_i x y p
  simp only [chkE] at hc
  obtain ⟨h1, h2⟩ := ba hc
  obtain ⟨h1, h3⟩ := ba h1
  simp only [wE] at hw
  refine RunE.of (pe_ix ixW_ok pe_run pe_run (slice_plain h1)) ?_
  refine (ha h3 hh ft.l hw).mono fun v1 H1 ⟨S1, ra, s1, r1, w1⟩ => ?_
  refine (hb h2 (hh.next s1) ft.r w1).mono fun v2 H2 ⟨S2, rb, s2, r2, w2⟩ => ?_
  exact (idx_ok (H0 := H0) hh.cx.ok s2.ok (r1.stp s1.ok s2) r2 w2).mono fun v H' p => (p.up hh.o.up.up (s1.tr s2)).c2
def slW (X : Cx) : V → Option Int → Option Int → Hp → VK → Prop := fun x lo hi H Q => ∀ (pins : List (Addr × Obj)) (s : Shared) (σ : L2.St) (v vl vu : Value) (sl : Addr), Inv X pins σ H s → RelV x v → s.heap.IsSliceOf sl vl vu .none → IsPart vl lo → IsPart vu hi →
    ∃ T id, typeLookup (.type T) "__getitem__" = pure (some (.builtin id)) ∧ s.TypeIs v T ∧ wpAny (model X.prog X.w) X.A (getItem v (.ref sl)) (EP X pins σ Q) X.xe s
theorem slW_ok : L2.SlR X (slW X) := fun pins s σ H x v vl vu lo hi sl Q I r1 r2 r3 r4 h => h pins s σ v vl vu sl I r1 r2 r3 r4
theorem slw {r : V → Option Int → Option Int → Hp → VK → Prop} {lo hi : Option Int} {Q : VK} (h : L2.SlR X r) (q : r x lo hi H Q) : slW X x lo hi H Q := fun pins s σ v vl vu sl I r1 r2 r3 r4 => h pins s σ H x v vl vu lo hi sl Q I r1 r2 r3 r4 q
theorem slW.mono {lo hi : Option Int} {Q Q' : VK} (h : slW X x lo hi H Q) (q : ∀ v H', Q v H' → Q' v H') : slW X x lo hi H Q' := fun pins s σ v vl vu sl I r1 r2 r3 r4 =>
  let ⟨T, id, h1, h2, h3⟩ := h pins s σ v vl vu sl I r1 r2 r3 r4
  ⟨T, id, h1, h2, thn h3 fun _ _ ⟨v, H', I', r, z⟩ => ⟨v, H', I', r, q _ _ z⟩⟩
theorem cut_reps {xs : List D} {vs : List V} {lo hi : Option Int} (h : Reps g S xs vs) : Reps g S (cutD xs lo hi) (cutV vs lo hi) := by
  unfold cutD cutV
  rw [h.length]
  exact (h.drop _).take _
theorem slc_ok {ra : R} {lo hi : Option Int} (ck : CxOk g k X) (hk : Ok st S H) (ha : RepR g st H0 S H1 H ra x) (h : wSlc ra lo hi P) : slW X x lo hi H (Post g st H0 S H P) := by
  unfold wSlc at h
  split at h
  · simp only [RepR, Rep] at ha
    subst ha
    exact slw sl_str ⟨_, rfl, h.1, Post.val hk (by simp only [Rep]) h.2⟩
  · rename_i xs
    have ha' := ha
    simp only [RepR, Rep] at ha
    obtain ⟨a, vs, rfl, h1, h2⟩ := ha
    refine slw sl_tupA ⟨a, vs, rfl, by rw [ck.K]; exact hk.sub.t h1, fun ⟨e1, e2⟩ => ?_, fun _ p hp => Post.tup hk hp (cut_reps h2) h⟩
    have z : cutD xs lo hi = xs := by
      unfold cutD
      rw [← h2.length, e1, e2, h2.length]
      simp
    rw [z] at h
    exact Post.val hk ha' h
  · split at h
    · rename_i xs e1
      obtain ⟨l, vs, rfl, h1, h2⟩ := ha.lv hk e1
      exact slw sl_list ⟨l, vs, rfl, SqL.of h1, fun p hp => Post.list hk hp (cut_reps h2) h⟩
    · exact h.elim
theorem sndE_slc {a lo hi : E} (ha : SndE g C a) (hl : SndO g C lo) (hu : SndO g C hi) : SndE g C (.slc a lo hi) := by
  intro Γ k X e st sx S0 H0 S H σ δ ex P hc hh ft hw
  cases e <;> try (simp [chkE] at hc; done)
  rename_i x y p
  cases y <;> try (simp [chkE] at hc; done)
  rename_i l h step p2
  cases step <;> try (simp [chkE] at hc; done)
  simp only [chkE] at hc
  obtain ⟨h1, h2⟩ := ba hc
  obtain ⟨h1, h3⟩ := ba h1
  simp only [wE] at hw
  refine RunE.of (pe_slice slW_ok pe_run po_run po_run) ?_
  refine (ha h1 hh ft.l.l hw).mono fun v1 H1 ⟨S1, ra, s1, r1, w1⟩ => ?_
  refine (hl h3 (hh.next s1) ft.l.r w1).mono fun lo H2 ⟨S2, s2, w2⟩ => ?_
  refine (hu h2 ((hh.next s1).next s2) ft.r3 w2).mono fun hi H3 ⟨S3, s3, w3⟩ => ?_
  exact (slc_ok (H0 := H0) hh.cx.ok s3.ok ((r1.stp s1.ok s2).stp s2.ok s3) w3).mono fun v H' p => (p.up hh.o.up.up.up ((s1.tr s2).tr s3)).c3
end
end Dl

set_option Elab.async false
set_option linter.all false
set_option maxRecDepth 100000
set_option maxHeartbeats 4000000
/-! Dl: calls. -/
namespace Dl
open PySem PySem.Spec PyProof.Rows L2 StX
section
variable {g : Gb} {C : Ct} {Γ : Sc} {k : Nat} {X : Cx} {st sx : Option StA} {S0 H0 S H S1 H1 H' : Hp} {σ : L2.St} {δ : List Sl} {ex : XD → Prop} {P : R → Prop} {v x y : V}
theorem CxOk.fnr {n j : Nat} {a : Addr} {sp : Sp} (ck : CxOk g j X) (F : FnR g.P g.w g.K g.mg g.base (L2.CX g.P g.w) n a sp) : FnR X.prog X.w X.K X.mg X.base (L2.CX X.prog X.w) n a sp := by
  rw [ck.prog, ck.w, ck.K, ck.mg, ck.base]; exact F
theorem Hyp.pass (h : Hyp g C Γ k X st sx S0 H0 S H σ δ ex) : Passes (L2.CX X.prog X.w) X (XPost g sx S0 H0 ex) := passes_call h.tk fun _ _ _ _ q => q
theorem CxG.room (h : CxG g Γ k X) : Room k X.A := h.ok.room.mono (by omega)
theorem Post.imp (h : Post g st H0 S H (fun r => r.out = true ∧ P r) v H') : Post g st H0 S H P v H' := h.mono fun r q => q.2
theorem CxOk.fng {n j : Nat} {a : Addr} {sp : Sp} (ck : CxOk g j X) (F : FnG g.P g.w g.K g.mg g.base (L2.CX g.P g.w) n a sp) : FnG X.prog X.w X.K X.mg X.base (L2.CX X.prog X.w) n a sp := by
  rw [ck.prog, ck.w, ck.K, ck.mg, ck.base]; exact F
theorem run_fnG {CX : CXT} {pins : List (Addr × Obj)} {s : Shared} {n : Nat} {f : Addr} {sp : Sp} {EX : XK} {Q : VK} {us : List Value} {vs : List V} (F : FnG X.prog X.w X.K X.mg X.base CX n f sp) (hg : X.A.guards = some []) (hr : Room n X.A) (hx : Passes CX X EX) (I : Inv X pins σ H s) (r : Vals vs us) (h : sp vs H Q EX) :
    codeAny (model X.prog X.w) X.A (.call (.ref f) ⟨us, []⟩) (fun r s' => match r with | .ok (.ret v) => EP X pins σ Q v s' | .ok _ => False | .error e => X.xe e s') s := by
  refine codeAny_mono (F X.A X.stack s H us vs Q EX hr hg I.env0 r h) fun r s' hq => ?_
  cases r with
  | error e => exact hx pins σ H s e s' I hq
  | ok fl =>
    cases fl with
    | ret u => exact I.after hq
    | _ => exact False.elim hq
theorem pe_callG0 {CX : CXT} {n : Nat} {f : Addr} {sp : Sp} {EX : XK} {x : Str} {p pos : Pos} (F : FnG X.prog X.w X.K X.mg X.base CX n f sp) (gd : X.A.guards = some []) (hr : Room n X.A) (hg : Gl X x) (hm : X.mg x = some (.ref f)) (hk : PySem.W.keepIn X.K (.ref f) = true)
    (hx : Passes CX X EX) (hdb : (x == ("__debug__" : Str)) = false) : PE X (.Call (.Name x p) [] [] pos) (fun σ H Q => sp [] H Q EX) := by
  refine ⟨fun pins s σ H Q I h => ?_⟩
  refine wpAny_Call_Name_kw (ld_glob I hg hm ?_ hdb)
  exact PySem.W.callWith_K0 I.kIn hk (wpAny_call (run_fnG F gd hr hx I .nil h))
theorem pe_callG {CX : CXT} {n : Nat} {f : Addr} {sp : Sp} {EX : XK} {x : Str} {p pos : Pos} {e : Expr} {es : List Expr} {t : TA} {free : Str → Bool} {ir : E} (F : FnG X.prog X.w X.K X.mg X.base CX n f sp) (gd : X.A.guards = some []) (hr : Room n X.A) (hg : Gl X x) (hm : X.mg x = some (.ref f)) (hk : PySem.W.keepIn X.K (.ref f) = true)
    (hx : Passes CX X EX) (ha : PA X (e :: es) t) (hdb : (x == ("__debug__" : Str)) = false) (h0 : nonStar e = true) (hc : chkEs free Γ ir es = true) : PE X (.Call (.Name x p) (e :: es) [] pos) (fun σ H Q => t σ H fun vs H1 => sp vs H1 Q EX) := by
  refine ⟨fun pins s σ H Q I h => ?_⟩
  refine wpAny_Call_Name_kw (ld_glob I hg hm ?_ hdb)
  refine PySem.W.callWith_K (h₀ := X.base) I.ok.mod.kin hk (thn (ha.run pos pins s σ H _ I h) fun us s1 ⟨vs, H1, I1, r, q⟩ => ⟨I1.kIn, ?_⟩) (starEach_cons h0) (any_star hc)
  exact wpAny_call (run_fnG F gd hr hx I1 r q)
theorem sndE_call {f : Str} {es : E} (ha : SndEs g C es) : SndE g C (.call f es) := by
  intro Γ k X e st sx S0 H0 S H σ δ ex P hc hh ft hw
  cases e <;> try (simp [chkE] at hc; done)
  rename_i fn xs kws p
  cases fn <;> try (simp [chkE] at hc; done)
  cases kws <;> try (simp [chkE] at hc; done)
  simp only [chkE] at hc
  obtain ⟨h1', h2⟩ := ba hc
  clear hc
  have h1 := h1'
  clear h1'
  obtain ⟨h1', h3⟩ := ba h1
  clear h1
  have h1 := h1'
  clear h1'
  obtain ⟨h1', h4⟩ := ba h1
  clear h1
  have h1 := h1'
  clear h1'
  have e3 := (eq_of_beq h3).symm
  subst e3
  simp only [wE] at hw
  split at hw
  · rename_i fs q
    obtain ⟨a, e1, e2, F⟩ := hh.ct.fn _ _ q
    have F := hh.cx.ok.fnr F
    have e1 : X.mg f = some (.ref a) := by rw [hh.cx.ok.mg]; exact e1
    have e2 : PySem.W.keepIn X.K (.ref a) = true := by rw [hh.cx.ok.K]; exact e2
    cases xs with
    | nil =>
      cases es <;> try (simp [chkEs] at h2; done)
      simp only [wEs] at hw
      exact RunE.of (pe_callR0 F hh.cx.room (glB_ok hh.cx h1) e1 e2 hh.pass (noDbg_ok h4)) (call_sp (f := fs) (P := P) (a := 0) hh.o hh.fr (Step.refl hh.o).up .nil (show Fit st sx (0 + C.cf f) from ft) hh.lm hw)
    | cons x xs =>
      cases es <;> try (simp [chkEs] at h2; done)
      rename_i ir irs
      have h2' := h2
      simp only [chkEs] at h2
      obtain ⟨k1, k2⟩ := ba h2
      obtain ⟨k1, k3⟩ := ba k1
      refine RunE.of (pe_callR F hh.cx.room (glB_ok hh.cx h1) e1 e2 hh.pass pa_run (noDbg_ok h4) k1 k2) ?_
      refine (ha h2' hh ft.l hw).mono fun vs H1 ⟨S1, rs, s1, r1, w1⟩ => ?_
      exact call_sp (f := fs) (P := P) hh.o hh.fr s1 r1 ft hh.lm w1
  · exact hw.elim
theorem sndE_callG {f : Str} {es : E} (ha : SndEs g C es) : SndE g C (.callG f es) := by
  intro Γ k X e st sx S0 H0 S H σ δ ex P hc hh ft hw
  cases e <;> try (simp [chkE] at hc; done)
  rename_i fn xs kws p
  cases fn <;> try (simp [chkE] at hc; done)
  cases kws <;> try (simp [chkE] at hc; done)
  simp only [chkE] at hc
  obtain ⟨hg, hc'⟩ := ba hc
  clear hc
  have hc := hc'
  clear hc'
  obtain ⟨h1', h2⟩ := ba hc
  clear hc
  have h1 := h1'
  clear h1'
  obtain ⟨h1', h3⟩ := ba h1
  clear h1
  have h1 := h1'
  clear h1'
  obtain ⟨h1', h4⟩ := ba h1
  clear h1
  have h1 := h1'
  clear h1'
  have e3 := (eq_of_beq h3).symm
  subst e3
  simp only [wE] at hw
  split at hw
  · rename_i fs q
    obtain ⟨a, e1, e2, F⟩ := hh.ct.fnG _ _ q
    have F := hh.cx.ok.fng F
    have e1 : X.mg f = some (.ref a) := by rw [hh.cx.ok.mg]; exact e1
    have e2 : PySem.W.keepIn X.K (.ref a) = true := by rw [hh.cx.ok.K]; exact e2
    cases xs with
    | nil =>
      cases es <;> try (simp [chkEs] at h2; done)
      simp only [wEs] at hw
      exact RunE.of (pe_callG0 F (hh.cx.gd hg) hh.cx.room (glB_ok hh.cx h1) e1 e2 hh.pass (noDbg_ok h4)) (call_sp (f := fs) (P := P) (a := 0) hh.o hh.fr (Step.refl hh.o).up .nil (show Fit st sx (0 + C.cf f) from ft) hh.lm hw)
    | cons x xs =>
      cases es <;> try (simp [chkEs] at h2; done)
      rename_i ir irs
      have h2' := h2
      simp only [chkEs] at h2
      obtain ⟨k1, k2⟩ := ba h2
      obtain ⟨k1, k3⟩ := ba k1
      refine RunE.of (pe_callG F (hh.cx.gd hg) hh.cx.room (glB_ok hh.cx h1) e1 e2 hh.pass pa_run (noDbg_ok h4) k1 k2) ?_
      refine (ha h2' hh ft.l hw).mono fun vs H1 ⟨S1, rs, s1, r1, w1⟩ => ?_
      exact call_sp (f := fs) (P := P) hh.o hh.fr s1 r1 ft hh.lm w1
  · exact hw.elim
theorem sndE_meth {c m : Str} {o es : E} (ho : SndE g C o) (ha : SndEs g C es) : SndE g C (.meth c m o es) := by
  intro Γ k X e st sx S0 H0 S H σ δ ex P hc hh ft hw
  cases e <;> try (simp [chkE] at hc; done)
  rename_i fn xs kws p
  cases fn <;> try (simp [chkE] at hc; done)
  cases kws <;> try (simp [chkE] at hc; done)
  rename_i x y ap
  simp only [chkE] at hc
  obtain ⟨h1', h2⟩ := ba hc
  clear hc
  have h1 := h1'
  clear h1'
  obtain ⟨h1', h3⟩ := ba h1
  clear h1
  have h1 := h1'
  clear h1'
  obtain ⟨h1', h4⟩ := ba h1
  clear h1
  have h1 := h1'
  clear h1'
  obtain ⟨h1', h5⟩ := ba h1
  clear h1
  have h1 := h1'
  clear h1'
  obtain ⟨h1', h6⟩ := ba h1
  clear h1
  have h1 := h1'
  clear h1'
  have e6 := (eq_of_beq h6).symm
  subst e6
  simp only [wE] at hw
  split at hw
  · rename_i fs q
    obtain ⟨a, e1, e2, F⟩ := hh.ct.me _ _ _ q
    have F := hh.cx.ok.fnr F
    have e1 : Cls X.K (g.cl c) := by rw [hh.cx.ok.K]; exact e1
    have e2 : Meth X.K (g.cl c) m a := by rw [hh.cx.ok.K]; exact e2
    cases xs with
    | nil =>
      cases es <;> try (simp [chkEs] at h2; done)
      have hb2 : RunE X x σ H (fun v1 H1 => ∃ a dx gs, v1 = .ref a ∧ H1 a = some (.ins (g.cl c) dx gs) ∧ gs.lookup m = none ∧ spOf g fs (C.cm c m) [v1] H1 (Post g (up st (costE C (.meth c m o .nil))) H0 S H P) (XPost g sx S0 H0 ex)) := by
        refine (ho h3 hh ft.l.l hw).mono fun v1 H1 ⟨S1, ra, s1, r1, w1⟩ => ?_
        dsimp only at w1
        split at w1
        · rename_i c' gs
          obtain ⟨rfl, w2, w3⟩ := w1
          have r1' := r1
          simp only [RepR, Rep] at r1
          obtain ⟨b, dx, ws, rfl, k1, k2⟩ := r1
          refine ⟨b, dx, ws, rfl, s1.sub _ _ k1, k2.lookup_none w2, ?_⟩
          simp only [wEs] at w3
          exact call_sp (f := fs) (P := P) hh.o hh.fr s1 (.cons r1' .nil) (show Fit st sx (costE C o + C.cm c' _) from ft) hh.lm w3
        · exact w1.elim
      refine RunE.of (pe_methC0 pe_run e1 e2 F hh.cx.room hh.pass h1 h5) ?_
      refine hb2.mono fun v1 H1 ⟨a, dx, gs, e, k1, k2, k3⟩ => ?_
      subst e
      exact ⟨a, dx, gs, rfl, k1, k2, k3⟩
    | cons x' xs =>
      have hb2 : RunE X x σ H (fun v1 H1 => ∃ a dx gs, v1 = .ref a ∧ H1 a = some (.ins (g.cl c) dx gs) ∧ gs.lookup m = none ∧ RunA X (x' :: xs) σ H1 (fun vs H2 => spOf g fs (C.cm c m) (v1 :: vs) H2 (Post g (up st (costE C (.meth c m o es))) H0 S H P) (XPost g sx S0 H0 ex))) := by
        refine (ho h3 hh ft.l.l hw).mono fun v1 H1 ⟨S1, ra, s1, r1, w1⟩ => ?_
        dsimp only at w1
        split at w1
        · rename_i c' gs
          obtain ⟨rfl, w2, w3⟩ := w1
          have r1' := r1
          simp only [RepR, Rep] at r1
          obtain ⟨b, dx, ws, rfl, k1, k2⟩ := r1
          refine ⟨b, dx, ws, rfl, s1.sub _ _ k1, k2.lookup_none w2, ?_⟩
          refine (ha h2 (hh.next s1) ft.l.r w3).mono fun vs H2 ⟨S2, rs, s2, r2, w2⟩ => ?_
          exact call_sp (f := fs) (P := P) hh.o hh.fr (s1.tr s2).c2 (by rw [← up_up]; exact .cons (r1'.stp s1.ok s2) (r2.since fun l e => Step.back hh.o.up s1 e)) ft hh.lm w2
        · exact w1.elim
      refine RunE.of (pe_methC pe_run e1 e2 F hh.cx.room hh.pass pa_run h1 h5 h2 (of_decide_eq_true h4)) ?_
      refine hb2.mono fun v1 H1 ⟨a, dx, gs, e, k1, k2, k3⟩ => ?_
      subst e
      exact ⟨a, dx, gs, rfl, k1, k2, k3⟩
  · exact hw.elim
theorem pe_makeR0 {CX : CXT} {n : Nat} {f c : Addr} {sp : Sp} {EX : XK} {x : Str} {p pos : Pos} (M : Mk X.K c f) (F : FnR X.prog X.w X.K X.mg X.base CX n f sp) (hr : Room (n + 1) X.A) (hg : Gl X x) (hm : X.mg x = some (.ref c)) (hx : Passes CX X EX) (hdb : (x == ("__debug__" : Str)) = false) :
    PE X (.Call (.Name x p) [] [] pos) (tMakeR c sp EX tNil) := by
  refine ⟨fun pins s σ H Q I h => ?_⟩
  refine wpAny_Call_Name_kw (ld_glob I hg hm ?_ hdb)
  exact PySem.W.callWith_K0 I.kIn M.kp (run_makeR (us := []) M F hr hx I .nil h)
theorem make_sp {c : Str} {f : FS} {rs : List R} {vs : List V} {Hs Ss : Hp} {a b : Nat} (o : Ok st Ss Hs) (fr : Step st S0 H0 Ss Hs) (s : Step (up st a) Ss Hs S H) (h : RepRs g (up st a) H0 S Hs H rs vs) (ft : Fit st sx (a + b)) (lm : Lim sx) (w : wCall f rs (fun r => match r with | .val (.obj c' fs) => c' = c ∧ P r | _ => False) ex) :
    ∀ x dx, H x = none → H dx = none → dx ≠ x → spIni g c f b (V.ref x :: vs) (upd (upd H dx (.own x)) x (.ins (g.cl c) dx [])) (fun v H2 => v = .non ∧ Post g (up st (a + b)) H0 Ss Hs P (.ref x) H2) (XPost g sx S0 H0 ex) := by
  intro x dx h1 h2 h3
  unfold wCall at w
  split at w
  · rename_i l e
    obtain ⟨S2, a1, a2, a3, a4⟩ := args_ok h s s.ok (Ex.refl _) e
    obtain ⟨c', hc'⟩ := ft.eq
    refine ⟨up st a, S2, H, l, x, dx, vs, rfl, a1.ok, by rw [up_up]; exact ft.lim lm, h1, h2, h3, rfl, a3, f.mono _ _ _ _ _ (fun r hr => ?_) (fun x hx cls d H' S' s' r' => ⟨x, S', by rw [hc', ← up_up]; exact ((fr.tr a1).tr s').up, r', hx⟩) w⟩
    split at hr
    · rename_i c' fs
      obtain ⟨rfl, hp⟩ := hr
      refine ⟨fs, rfl, fun gs H' S' s' e1 e2 e3 => ⟨rfl, ?_⟩⟩
      have hn : ¬ isSt (up (up st a) b) x := fun z => by
        obtain ⟨u, e⟩ := a1.ok.up.st_some z
        rw [h1] at e
        cases e
      rw [← up_up]
      refine ⟨upd S' x (.ins (g.cl c') dx gs), .val (.obj c' fs), (a1.tr (s'.keep h1 e1 e2 hn)), ?_, hp⟩
      simp only [RepR, Rep]
      exact ⟨x, dx, gs, rfl, upd_same, RepF.mono (Ex.new e2) _ _ e3⟩
    · exact hr.elim
  · exact w.elim
theorem sndE_mk {c : Str} {es : E} (ha : SndEs g C es) : SndE g C (.mk c es) := by
  intro Γ k X e st sx S0 H0 S H σ δ ex P hc hh ft hw
  cases e <;> try (simp [chkE] at hc; done)
  rename_i fn xs kws p
  cases fn <;> try (simp [chkE] at hc; done)
  cases kws <;> try (simp [chkE] at hc; done)
  simp only [chkE] at hc
  obtain ⟨h1', h2⟩ := ba hc
  clear hc
  have h1 := h1'
  clear h1'
  obtain ⟨h1', h3⟩ := ba h1
  clear h1
  have h1 := h1'
  clear h1'
  obtain ⟨h1', h4⟩ := ba h1
  clear h1
  have h1 := h1'
  clear h1'
  have e3 := (eq_of_beq h3).symm
  subst e3
  simp only [wE] at hw
  split at hw
  · rename_i fs q
    obtain ⟨a, e1, e2, F⟩ := hh.ct.ini _ _ q
    have F := hh.cx.ok.fnr F
    have e1 : X.mg c = some (.ref (g.cl c)) := by rw [hh.cx.ok.mg]; exact e1
    have e2 : Mk X.K (g.cl c) a := by rw [hh.cx.ok.K]; exact e2
    cases xs with
    | nil =>
      cases es <;> try (simp [chkEs] at h2; done)
      simp only [wEs] at hw
      exact RunE.of (pe_makeR0 e2 F hh.cx.ok.room (glB_ok hh.cx h1) e1 hh.pass (noDbg_ok h4)) (make_sp (f := fs) (P := P) (a := 0) hh.o hh.fr (Step.refl hh.o).up .nil (show Fit st sx (0 + C.cf c) from ft) hh.lm hw)
    | cons x xs =>
      cases es <;> try (simp [chkEs] at h2; done)
      rename_i ir irs
      have h2' := h2
      simp only [chkEs] at h2
      obtain ⟨k1, k2⟩ := ba h2
      obtain ⟨k1, k3⟩ := ba k1
      refine RunE.of (pe_makeR e2 F hh.cx.ok.room (glB_ok hh.cx h1) e1 hh.pass pa_run (noDbg_ok h4) (starEach_cons k1) (any_star k2)) ?_
      refine (ha h2' hh ft.l hw).mono fun vs H1 ⟨S1, rs, s1, r1, w1⟩ => ?_
      exact make_sp (f := fs) (P := P) hh.o hh.fr s1 r1 ft hh.lm w1
  · exact hw.elim
theorem sndE_mkV {c vr : Str} {es : E} (ha : SndEs g C es) : SndE g C (.mkV c vr es) := by
  intro Γ k X e st sx S0 H0 S H σ δ ex P hc hh ft hw
  cases e <;> try (simp [chkE] at hc; done)
  rename_i fn xs kws p
  cases fn <;> try (simp [chkE] at hc; done)
  cases kws <;> try (simp [chkE] at hc; done)
  simp only [chkE] at hc
  obtain ⟨h1', h2⟩ := ba hc
  clear hc
  have h1 := h1'
  clear h1'
  obtain ⟨h1', h3⟩ := ba h1
  clear h1
  have h1 := h1'
  clear h1'
  obtain ⟨h1', h4⟩ := ba h1
  clear h1
  have h1 := h1'
  clear h1'
  have e3 := (eq_of_beq h3).symm
  subst e3
  simp only [wE] at hw
  split at hw
  · rename_i fs q
    obtain ⟨a, e1, e2, F⟩ := hh.ct.iniV _ _ _ q
    have F := hh.cx.ok.fnr F
    have e1 : X.mg c = some (.ref (g.cl c)) := by rw [hh.cx.ok.mg]; exact e1
    have e2 : Mk X.K (g.cl c) a := by rw [hh.cx.ok.K]; exact e2
    cases xs with
    | nil =>
      cases es <;> try (simp [chkEs] at h2; done)
      simp only [wEs] at hw
      exact RunE.of (pe_makeR0 e2 F hh.cx.ok.room (glB_ok hh.cx h1) e1 hh.pass (noDbg_ok h4)) (make_sp (f := fs) (P := P) (a := 0) hh.o hh.fr (Step.refl hh.o).up .nil (show Fit st sx (0 + C.cv c vr) from ft) hh.lm hw)
    | cons x xs =>
      cases es <;> try (simp [chkEs] at h2; done)
      rename_i ir irs
      have h2' := h2
      simp only [chkEs] at h2
      obtain ⟨k1, k2⟩ := ba h2
      obtain ⟨k1, k3⟩ := ba k1
      refine RunE.of (pe_makeR e2 F hh.cx.ok.room (glB_ok hh.cx h1) e1 hh.pass pa_run (noDbg_ok h4) (starEach_cons k1) (any_star k2)) ?_
      refine (ha h2' hh ft.l hw).mono fun vs H1 ⟨S1, rs, s1, r1, w1⟩ => ?_
      exact make_sp (f := fs) (P := P) hh.o hh.fr s1 r1 ft hh.lm w1
  · exact hw.elim
theorem sndE_attr {f : Str} {o : E} (ho : SndE g C o) : SndE g C (.attr o f) := by
  intro Γ k X e st sx S0 H0 S H σ δ ex P hc hh ft hw
  cases e <;> try (simp [chkE] at hc; done)
  rename_i x y p
  simp only [chkE] at hc
  obtain ⟨h1', h2⟩ := ba hc
  clear hc
  have h1 := h1'
  clear h1'
  obtain ⟨h1', h3⟩ := ba h1
  clear h1
  have h1 := h1'
  clear h1'
  have e3 := (eq_of_beq h3).symm
  subst e3
  simp only [wE] at hw
  refine RunE.of (pe_fld pe_run (noCall_base h1)) ?_
  refine (ho h2 hh ft hw).mono fun v1 H1 ⟨S1, ra, s1, r1, w1⟩ => ?_
  dsimp only at w1
  split at w1
  · rename_i c fs
    obtain ⟨w1, w2⟩ := w1
    split at w2
    · rename_i d e1
      simp only [RepR, Rep] at r1
      obtain ⟨a, dx, gs, rfl, k1, k2⟩ := r1
      obtain ⟨u, k3, k4⟩ := k2.lookup e1
      obtain ⟨z1, z2⟩ := hh.ct.fld _ _ w1
      refine ⟨a, g.cl c, dx, gs, u, rfl, s1.sub _ _ k1, by rw [hh.cx.ok.K]; exact z1, by rw [hh.cx.ok.K]; exact z2, k3, ?_⟩
      exact (Post.val s1.ok k4 w2 : Post g _ H0 S1 H1 P _ H1).up hh.o.up s1
    · exact w2.elim
  · exact w1.elim
theorem sndE_prp {c f : Str} {o : E} (ho : SndE g C o) : SndE g C (.prp c f o) := by
  intro Γ k X e st sx S0 H0 S H σ δ ex P hc hh ft hw
  cases e <;> try (simp [chkE] at hc; done)
  rename_i x y p
  simp only [chkE] at hc
  obtain ⟨h1', h2⟩ := ba hc
  clear hc
  have h1 := h1'
  clear h1'
  obtain ⟨h1', h3⟩ := ba h1
  clear h1
  have h1 := h1'
  clear h1'
  have e3 := (eq_of_beq h3).symm
  subst e3
  simp only [wE] at hw
  split at hw
  · rename_i fs q
    obtain ⟨pa, a, fd, ps, e1, e2, F, e4⟩ := hh.ct.pr _ _ _ q
    have F : FnOk X.prog X.w X.K X.mg X.base (L2.CX X.prog X.w) k a fd ps (spOf g fs 0) := by
      rw [hh.cx.ok.prog, hh.cx.ok.w, hh.cx.ok.K, hh.cx.ok.mg, hh.cx.ok.base]; exact F
    refine RunE.of (pe_prop (E := XPost g sx S0 H0 fun _ => False) (ds := []) (dvs := []) pe_run (by rw [hh.cx.ok.K]; exact e1) (by rw [hh.cx.ok.K]; exact e2) F hh.cx.ok.room (by rw [hh.cx.ok.K]; exact e4) .nil ?_ (noCall_base h1)) ?_
    · rintro pins σ' H2 s2 e s' I ⟨_, _, _, _, _, _, _, _, _, _, _, _, hE⟩
      obtain ⟨_, _, _, _, hF⟩ := hE
      exact hF.elim
    refine (ho h2 hh ft hw).mono fun v1 H1 ⟨S1, ra, s1, r1, w1⟩ => ?_
    dsimp only at w1
    split at w1
    · rename_i c' gs
      obtain ⟨rfl, w1⟩ := w1
      have r1' := r1
      simp only [RepR, Rep] at r1
      obtain ⟨b, dx, ws, rfl, k1, k2⟩ := r1
      exact ⟨b, dx, ws, rfl, s1.sub _ _ k1, call_sp (f := fs) (P := P) (b := 0) hh.o hh.fr s1 (.cons r1' .nil) ft hh.lm w1⟩
    · exact w1.elim
  · exact hw.elim
theorem star2 {ir : E} {x : Expr} {xs : List Expr} {Γ : Sc} {free : Str → Bool} {env : PySem.Env} (h : nonStar x = true) : starEach (x :: xs) env = (false, eval x env) :: starEach xs env := starEach_cons h
theorem ne_name {x : Str} (h : (x != "__name__") = true) : x ≠ "__name__" := by
  intro e
  rw [e] at h
  exact absurd h (by decide)
theorem sndE_bi {b : String} {a es : E} (ha : SndE g C a) (hs : SndEs g C es) : SndE g C (.bi b (.cons a es)) := by
  intro Γ k X e st sx S0 H0 S H σ δ ex P hc hh ft hw
  cases e <;> try (simp [chkE] at hc; done)
  rename_i fn xs kws p
  cases fn <;> try (simp [chkE] at hc; done)
  cases kws <;> try (simp [chkE] at hc; done)
  cases xs <;> try (simp [chkE] at hc; done)
  rename_i x px e es'
  simp only [chkE] at hc
  obtain ⟨h1', h2⟩ := ba hc
  clear hc
  have h1 := h1'
  clear h1'
  obtain ⟨h1', h3⟩ := ba h1
  clear h1
  have h1 := h1'
  clear h1'
  obtain ⟨h1', h4⟩ := ba h1
  clear h1
  have h1 := h1'
  clear h1'
  obtain ⟨h1', h5⟩ := ba h1
  clear h1
  have h1 := h1'
  clear h1'
  obtain ⟨h1', h6⟩ := ba h1
  clear h1
  have h1 := h1'
  clear h1'
  obtain ⟨h1', h7⟩ := ba h1
  clear h1
  have h1 := h1'
  clear h1'
  obtain ⟨h1', h8⟩ := ba h1
  clear h1
  have h1 := h1'
  clear h1'
  simp only [wE, wEs] at hw
  refine RunE.of (pe_callB callW_ok (glB_ok hh.cx h1) (hh.cx.ok.gl (hh.ct.free _ h7)) (isBi_ok h6) (pa_cons pe_run pa_run (starEach_cons h4)) (ne_name h5) (noDbg_ok h8) (starEach_cons h4) (any_star h2)) ?_
  refine (ha h3 hh ft.l hw).mono fun v1 H1 ⟨S1, ra, s1, r1, w1⟩ => ?_
  refine (hs h2 (hh.next s1) ft.r w1).mono fun vs H2 ⟨S2, rs, s2, r2, w2⟩ => ?_
  exact (bi_ok (H0 := H0) hh.cx.ok s2.ok (.cons (r1.stp s1.ok s2) (r2.since fun l e => Step.back hh.o.up s1 e)) w2).mono fun v H' p => (p.up hh.o.up.up (s1.tr s2)).c2
theorem sndE_ty {b : String} {a es : E} (ha : SndE g C a) (hs : SndEs g C es) : SndE g C (.ty b (.cons a es)) := by
  intro Γ k X e st sx S0 H0 S H σ δ ex P hc hh ft hw
  cases e <;> try (simp [chkE] at hc; done)
  rename_i fn xs kws p
  cases fn <;> try (simp [chkE] at hc; done)
  cases kws <;> try (simp [chkE] at hc; done)
  cases xs <;> try (simp [chkE] at hc; done)
  rename_i x px e es'
  simp only [chkE] at hc
  obtain ⟨h1', h2⟩ := ba hc
  clear hc
  have h1 := h1'
  clear h1'
  obtain ⟨h1', h3⟩ := ba h1
  clear h1
  have h1 := h1'
  clear h1'
  obtain ⟨h1', h4⟩ := ba h1
  clear h1
  have h1 := h1'
  clear h1'
  obtain ⟨h1', h5⟩ := ba h1
  clear h1
  have h1 := h1'
  clear h1'
  obtain ⟨h1', h6⟩ := ba h1
  clear h1
  have h1 := h1'
  clear h1'
  obtain ⟨h1', h7⟩ := ba h1
  clear h1
  have h1 := h1'
  clear h1'
  obtain ⟨h1', h8⟩ := ba h1
  clear h1
  have h1 := h1'
  clear h1'
  simp only [wE, wEs] at hw
  refine RunE.of (pe_callTy callW_ok (glB_ok hh.cx h1) (hh.cx.ok.gl (hh.ct.free _ h7)) (isTyN_ok h6) (pa_cons pe_run pa_run (starEach_cons h4)) (ne_name h5) (noDbg_ok h8) (starEach_cons h4) (any_star h2)) ?_
  refine (ha h3 hh ft.l hw).mono fun v1 H1 ⟨S1, ra, s1, r1, w1⟩ => ?_
  refine (hs h2 (hh.next s1) ft.r w1).mono fun vs H2 ⟨S2, rs, s2, r2, w2⟩ => ?_
  exact (ty_ok (H0 := H0) hh.cx.ok s2.ok (.cons (r1.stp s1.ok s2) (r2.since fun l e => Step.back hh.o.up s1 e)) w2).mono fun v H' p => (p.up hh.o.up.up (s1.tr s2)).c2
end
end Dl

set_option Elab.async false
set_option linter.all false
set_option maxRecDepth 100000
set_option maxHeartbeats 4000000
/-! Dl: operators op1, op2, opn. -/
namespace Dl
open PySem PySem.Spec PyProof.Rows L2
section
variable {g : Gb} {C : Ct} {Γ : Sc} {k : Nat} {X : Cx} {st sx : Option StA} {S0 H0 S H S1 H1 S2 H2 H' : Hp} {σ : L2.St} {δ : List Sl} {ex : XD → Prop} {P : R → Prop} {v x y : V}
def unW (X : Cx) (f : Value → Sem Value) : V → Hp → VK → Prop := fun x H Q => ∀ (pins : List (Addr × Obj)) (s : Shared) (σ : L2.St) (v : Value), Inv X pins σ H s → RelV x v → wpAny (model X.prog X.w) X.A (f v) (EP X pins σ Q) X.xe s
theorem unW_ok {f : Value → Sem Value} : UnR X f (unW X f) := fun pins s σ H x v Q I rx h => h pins s σ v I rx
theorem unw {f : Value → Sem Value} {r : V → Hp → VK → Prop} {Q : VK} (h : UnR X f r) (q : r x H Q) : unW X f x H Q := fun pins s σ v I rx => h pins s σ H x v Q I rx q
theorem own_of {st : Option StA} {d : D} {c1 : Str} {f1 : List (Str × D)} {HS : Hp} (o : Ok st S1 H1) (h : RepR g st H0 S1 HS H1 (.val (.obj c1 f1)) v) : ∃ a dx gs, v = .ref a ∧ H1 a = some (.ins (g.cl c1) dx gs) := by
  simp only [RepR, Rep] at h
  obtain ⟨b, dx, ws, rfl, k1, k2⟩ := h
  exact ⟨b, dx, ws, rfl, o.sub _ _ k1⟩
theorem wCall_mono {q : FS} {as : List R} {P P' : R → Prop} {X X' : XD → Prop} (f : ∀ r, P r → P' r) (x : ∀ r, X r → X' r) (h : wCall q as P X) : wCall q as P' X' := by
  unfold wCall at h ⊢
  split at h
  · exact q.mono _ _ _ _ _ f x h
  · exact h
theorem spOf_mono {f : FS} {b : Nat} {vs : List V} {Q Q' : VK} {E : XK} (h : spOf g f b vs H Q E) (q : ∀ v H', Q v H' → Q' v H') : spOf g f b vs H Q' E := by
  obtain ⟨st, S, as, h1, h2, h3, h4⟩ := h
  exact ⟨st, S, as, h1, h2, h3, f.mono _ _ _ _ _ (fun r hr => ⟨hr.1, fun v H' S' s r' => q _ _ (hr.2 v H' S' s r')⟩) (fun _ h => h) h4⟩
theorem wOp1_inv {c : Str} {r : R} (h : wOp1 C (.inv c) r P ex) : ∃ f1 fs, r = .val (.obj c f1) ∧ C.me c "__invert__" = some fs ∧ wCall fs [r] (fun r => r.out = true ∧ P r) ex := by
  unfold wOp1 at h
  split at h
  · rename_i he
    cases he
    obtain ⟨rfl, h⟩ := h
    split at h
    · rename_i fs q
      exact ⟨_, fs, rfl, q, h⟩
    · exact h.elim
  · exact h.elim
theorem wOp2_ocm {q : CmO} {c : Str} {r t : R} (h : wOp2 C (.ocm q c) r t P ex) : ∃ f1 f2 fs, r = .val (.obj c f1) ∧ t = .val (.obj c f2) ∧ C.me c (cmpInfo q.op).2.1 = some fs ∧ wCall fs [r, t] (fun r => r.out = true ∧ P r) ex := by
  unfold wOp2 at h
  split at h
  · rename_i he
    cases he
    obtain ⟨rfl, rfl, h⟩ := h
    split at h
    · rename_i fs q
      exact ⟨_, _, fs, rfl, rfl, q, h⟩
    · exact h.elim
  · rename_i he; cases he
  · rename_i he; cases he
  · rename_i he; cases he
  · exact h.elim
theorem wOp2_one {c : Str} {r t : R} (h : wOp2 C (.one c) r t P ex) : ∃ f1 f2 fs, r = .val (.obj c f1) ∧ t = .val (.obj c f2) ∧ C.own c = true ∧ C.me c "__eq__" = some fs ∧ wCall fs [r, t] (fun r => match r with | .val (.bl b) => P (.val (.bl (!b))) | _ => False) ex := by
  unfold wOp2 at h
  split at h
  · rename_i he; cases he
  · rename_i he
    cases he
    obtain ⟨rfl, rfl, ow, h⟩ := h
    split at h
    · rename_i fs q
      exact ⟨_, _, fs, rfl, rfl, ow, q, h⟩
    · exact h.elim
  · rename_i he; cases he
  · rename_i he; cases he
  · exact h.elim
theorem wOp2_obn {q : Operator} {c : Str} {r t : R} (h : wOp2 C (.obn q c) r t P ex) : ∃ f1 f2 fs, r = .val (.obj c f1) ∧ t = .val (.obj c f2) ∧ C.own c = true ∧ C.me c (PySem.dunder q.info.2) = some fs ∧ wCall fs [r, t] (fun r => r.out = true ∧ P r) ex := by
  unfold wOp2 at h
  split at h
  · rename_i he; cases he
  · rename_i he; cases he
  · rename_i he
    cases he
    obtain ⟨rfl, rfl, ow, h⟩ := h
    split at h
    · rename_i fs q
      exact ⟨_, _, fs, rfl, rfl, ow, q, h⟩
    · exact h.elim
  · rename_i he; cases he
  · exact h.elim
theorem wOp2_ocv {q : CmO} {c : Str} {r t : R} (h : wOp2 C (.ocv q c) r t P ex) : ∃ f1 xs fs, r = .val (.obj c f1) ∧ t = .val (.tup xs) ∧ C.me c (cmpInfo q.op).2.1 = some fs ∧ wCall fs [r, t] (fun r => r.out = true ∧ P r) ex := by
  unfold wOp2 at h
  split at h
  · rename_i he; cases he
  · rename_i he; cases he
  · rename_i he; cases he
  · rename_i he
    cases he
    obtain ⟨rfl, h⟩ := h
    split at h
    · rename_i fs q
      exact ⟨_, _, fs, rfl, rfl, q, h⟩
    · exact h.elim
  · exact h.elim
/-- one part -/
theorem op1_ok {o : Op1} {e x : Expr} {a : Nat} (hs : sub1 Γ o e = some x) (hh : Hyp g C Γ k X st sx S0 H0 S H σ δ ex) (ft : Fit st sx (a + costOp1 C o))
    (hr : RunE X x σ H (fun v1 H1 => ∃ S1 ra, Step (up st a) S H S1 H1 ∧ RepR g (up st a) H0 S1 H H1 ra v1 ∧ wOp1 C o ra P ex)) : RunE X e σ H (Post g (up st (a + costOp1 C o)) H0 S H P) := by
  cases o with
  | inv c =>
    cases e <;> try (simp [sub1] at hs; done)
    rename_i op y p
    cases op <;> try (simp [sub1] at hs; done)
    simp only [sub1, Option.some.injEq] at hs
    subst hs
    refine RunE.of (pe_un unW_ok pe_run) (hr.mono fun v1 H1 ⟨S1, ra, s1, r1, w1⟩ => ?_)
    obtain ⟨f1, fs, rfl, qm, w1⟩ := wOp1_inv w1
    obtain ⟨fa, e1, e2, F⟩ := hh.ct.me _ _ _ qm
    have F := hh.cx.ok.fnr F
    obtain ⟨b, dx, gs, rfl, hb⟩ := own_of (d := .non) s1.ok r1
    refine unw (un_ownInv F hh.cx.room hh.pass (by rw [hh.cx.ok.K]; exact e2.at_) (by rw [hh.cx.ok.K]; exact e2.fn)) ?_
    exact ⟨b, dx, gs, rfl, hb, call_sp (f := fs) (P := P) hh.o hh.fr s1 (.cons r1 .nil) ft hh.lm w1⟩
/-- two parts: what both are -/
abbrev P2 (C : Ct) (g : Gb) (H0 : Hp) (ex : XD → Prop) (o : Op2) (P : R → Prop) (st : Option StA) (a b : Nat) (S H : Hp) (v1 v2 : V) (H2 : Hp) : Prop :=
  ∃ S2 ra rb, Step (up st (a + b)) S H S2 H2 ∧ RepR g (up st (a + b)) H0 S2 H H2 ra v1 ∧ RepR g (up st (a + b)) H0 S2 H H2 rb v2 ∧ wOp2 C o ra rb P ex
theorem cmp2_ok {o : Op2} {op : CmpOp} {v1 v2 : V} {a b : Nat} (hq : o.cmp = some op) (hh : Hyp g C Γ k X st sx S0 H0 S H σ δ ex) (ft : Fit st sx (a + b + costOp2 C o))
    (hp : P2 C g H0 ex o P st a b S H v1 v2 H2) : opW X (compareOp op) v1 v2 H2 (Post g (up st (a + b + costOp2 C o)) H0 S H P) := by
  obtain ⟨S2, ra, rb, s2, r1, r2, w⟩ := hp
  cases o with
  | ocm q c =>
    obtain ⟨f1, f2, fs, rfl, rfl, qm, w⟩ := wOp2_ocm w
    obtain ⟨fa, e1, e2, F⟩ := hh.ct.me _ _ _ qm
    have F := hh.cx.ok.fnr F
    obtain ⟨p1, dx1, gs1, rfl, h1⟩ := own_of (d := .non) s2.ok r1
    obtain ⟨p2, dx2, gs2, rfl, h2⟩ := own_of (d := .non) s2.ok r2
    have eo : op = q.op ∧ compareOp op = richCompare op := by
      cases q <;> simp [Op2.cmp] at hq <;> subst hq <;> exact ⟨rfl, rfl⟩
    obtain ⟨rfl, eo⟩ := eo
    refine opw (op_ownCmp eo F hh.cx.room hh.pass (by rw [hh.cx.ok.K]; exact e2.at_) (by rw [hh.cx.ok.K]; exact e2.fn)) ?_
    exact ⟨p1, p2, dx1, dx2, gs1, gs2, rfl, rfl, h1, h2, call_sp (f := fs) (P := P) hh.o hh.fr s2 (.cons r1 (.cons r2 .nil)) ft hh.lm w⟩
  | one c =>
    obtain ⟨f1, f2, fs, rfl, rfl, ow, qm, w⟩ := wOp2_one w
    obtain ⟨fa, e1, e2, F⟩ := hh.ct.me _ _ _ qm
    have F := hh.cx.ok.fnr F
    obtain ⟨p1, dx1, gs1, rfl, h1⟩ := own_of (d := .non) s2.ok r1
    obtain ⟨p2, dx2, gs2, rfl, h2⟩ := own_of (d := .non) s2.ok r2
    obtain ⟨o1, o2, o3⟩ := hh.ct.own _ ow
    cases hq
    refine opw (op_ownNe F hh.cx.ok.room hh.pass (by rw [hh.cx.ok.K]; exact o2) (by rw [hh.cx.ok.K]; exact o3) (by rw [hh.cx.ok.K]; exact e2.at_) (by rw [hh.cx.ok.K]; exact e2.fn)) ?_
    refine ⟨p1, p2, dx1, dx2, gs1, gs2, rfl, rfl, h1, h2, ?_⟩
    have z := call_sp (f := fs) (P := fun r => match r with | .val (.bl b) => P (.val (.bl (!b))) | _ => False) hh.o hh.fr s2 (.cons r1 (.cons r2 .nil)) ft hh.lm (wCall_mono (fun r h => ⟨by split at h <;> first | rfl | exact h.elim, h⟩) (fun _ h => h) w)
    refine spOf_mono z fun v H' p => ?_
    obtain ⟨S3, r, s3, r3, w3⟩ := p
    split at w3
    · rename_i b
      simp only [RepR, Rep] at r3
      exact ⟨b, r3, S3, .val (.bl (!b)), s3, by simp only [RepR, Rep], w3⟩
    · exact w3.elim
  | obn q c => cases hq
  | ocv q c =>
    obtain ⟨f1, xs, fs, rfl, rfl, qm, w⟩ := wOp2_ocv w
    obtain ⟨fa, e1, e2, F⟩ := hh.ct.me _ _ _ qm
    have F := hh.cx.ok.fnr F
    obtain ⟨p1, dx1, gs1, rfl, h1⟩ := own_of (d := .non) s2.ok r1
    have r2' := r2
    simp only [RepR, Rep] at r2'
    obtain ⟨p2, ys, rfl, h2, _⟩ := r2'
    have eo : op = q.op ∧ compareOp op = richCompare op := by
      cases q <;> simp [Op2.cmp] at hq <;> subst hq <;> exact ⟨rfl, rfl⟩
    obtain ⟨rfl, eo⟩ := eo
    refine opw (op_ownCmpT eo F hh.cx.room hh.pass (by rw [hh.cx.ok.K]; exact e2.at_) (by rw [hh.cx.ok.K]; exact e2.fn)) ?_
    exact ⟨p1, p2, dx1, gs1, ys, rfl, rfl, h1, by rw [hh.cx.ok.K]; exact s2.ok.sub.t h2, call_sp (f := fs) (P := P) hh.o hh.fr s2 (.cons r1 (.cons r2 .nil)) ft hh.lm w⟩
theorem cmpSub_ok {op : CmpOp} {e x y : Expr} (h : cmpSub op e = some (x, y)) : ∃ p, e = .Compare x [op] [y] p ∧ behindInMarks op y = false := by
  unfold cmpSub at h
  split at h
  · split at h
    · rename_i h2
      cases h
      obtain ⟨a, b⟩ := ba h2
      have a := of_decide_eq_true a
      subst a
      exact ⟨_, rfl, nb b⟩
    · cases h
  · cases h
theorem op2_ok {o : Op2} {e x y : Expr} {a b : Nat} (hs : sub2 Γ o e = some (x, y)) (hh : Hyp g C Γ k X st sx S0 H0 S H σ δ ex) (ft : Fit st sx (a + b + costOp2 C o))
    (hr : RunE X x σ H (fun v1 H1 => RunE X y σ H1 (fun v2 H2 => P2 C g H0 ex o P st a b S H v1 v2 H2))) : RunE X e σ H (Post g (up st (a + b + costOp2 C o)) H0 S H P) := by
  unfold sub2 at hs
  split at hs
  · rename_i op hq
    obtain ⟨p, rfl, hb⟩ := cmpSub_ok hs
    exact RunE.of (pe_cmpR opW_ok pe_run pe_run hb) (hr.mono fun v1 H1 h => h.mono fun v2 H2 h => cmp2_ok hq hh ft h)
  · split at hs
    · split at hs
      · rename_i q c x' op y' p hd
        cases hs
        have hd := of_decide_eq_true hd
        subst hd
        refine RunE.of (pe_op opW_ok pe_run pe_run) (hr.mono fun v1 H1 h => h.mono fun v2 H2 h => ?_)
        obtain ⟨S2, ra, rb, s2, r1, r2, w⟩ := h
        obtain ⟨f1, f2, fs, rfl, rfl, ow, qm, w⟩ := wOp2_obn w
        obtain ⟨fa, e1, e2, F⟩ := hh.ct.me _ _ _ qm
        have F := hh.cx.ok.fnr F
        obtain ⟨p1, dx1, gs1, rfl, h1⟩ := own_of (d := .non) s2.ok r1
        obtain ⟨p2, dx2, gs2, rfl, h2⟩ := own_of (d := .non) s2.ok r2
        obtain ⟨o1, o2, o3⟩ := hh.ct.own _ ow
        refine opw (op_ownBin F hh.cx.room hh.pass (by rw [hh.cx.ok.K]; exact o1) (by rw [hh.cx.ok.K]; exact e2.at_) (by rw [hh.cx.ok.K]; exact e2.fn)) ?_
        exact ⟨p1, p2, dx1, dx2, gs1, gs2, rfl, rfl, h1, h2, call_sp (f := fs) (P := P) hh.o hh.fr s2 (.cons r1 (.cons r2 .nil)) ft hh.lm w⟩
      · cases hs
    · cases hs
theorem p2_of {o : Op2} {a b : E} {x y : Expr} (ha : SndE g C a) (hb : SndE g C b) (h1 : chkE C.free Γ a x = true) (h2 : chkE C.free Γ b y = true) (hh : Hyp g C Γ k X st sx S0 H0 S H σ δ ex) (ft : Fit st sx (costE C a + costE C b + costOp2 C o))
    (hw : wE C a δ (fun ra => wE C b δ (fun rb => wOp2 C o ra rb P ex) ex) ex) : RunE X x σ H (fun v1 H1 => RunE X y σ H1 (fun v2 H2 => P2 C g H0 ex o P st (costE C a) (costE C b) S H v1 v2 H2)) := by
  refine (ha h1 hh ft.l.l hw).mono fun v1 H1 ⟨S1, ra, s1, r1, w1⟩ => ?_
  refine (hb h2 (hh.next s1) ft.l.r w1).mono fun v2 H2 ⟨S2, rb, s2, r2, w2⟩ => ?_
  refine ⟨S2, ra, rb, (s1.tr s2).c2, (r1.stp s1.ok s2).c2, ?_, w2⟩
  exact (r2.since fun l e => Step.back hh.o.up s1 e).c2
theorem sndE_op1 {o : Op1} {a : E} (ha : SndE g C a) : SndE g C (.op1 o a) := by
  intro Γ k X e st sx S0 H0 S H σ δ ex P hc hh ft hw
  simp only [chkE] at hc
  simp only [wE] at hw
  split at hc
  · rename_i x hs
    exact op1_ok hs hh ft ((ha hc hh ft.l hw).mono fun v1 H1 ⟨S1, ra, s1, r1, w1⟩ => ⟨S1, ra, s1, r1, w1⟩)
  · cases hc
theorem sndE_op2 {o : Op2} {a b : E} (ha : SndE g C a) (hb : SndE g C b) : SndE g C (.op2 o a b) := by
  intro Γ k X e st sx S0 H0 S H σ δ ex P hc hh ft hw
  simp only [chkE] at hc
  simp only [wE] at hw
  split at hc
  · rename_i x y hs
    obtain ⟨h1, h2⟩ := ba hc
    exact op2_ok hs hh ft (p2_of ha hb h1 h2 hh ft hw)
  · cases hc
theorem sndT_op2 {o : Op2} {a b : E} (ha : SndE g C a) (hb : SndE g C b) : SndT g C (.op2 o a b) := by
  intro Γ k X e st sx S0 H0 S H σ δ ex P hc hh ft hw
  simp only [chkT] at hc
  simp only [wT] at hw
  split at hc
  · rename_i op hq
    split at hc
    · rename_i x y hs
      obtain ⟨h1, h2⟩ := ba hc
      obtain ⟨p, rfl, hb'⟩ := cmpSub_ok hs
      refine RunT.of (pt_cmpR opW_ok pe_run pe_run hb') ((p2_of ha hb h1 h2 hh ft hw).mono fun v1 H1 h => h.mono fun v2 H2 h => (cmp2_ok hq hh ft h).mono fun v H3 ⟨S3, r, s3, r3, w3⟩ => ?_)
      dsimp only at w3
      split at w3
      · rename_i c
        simp only [RepR, Rep] at r3
        exact ⟨c, r3, S3, s3, w3⟩
      · exact w3.elim
    · cases hc
  · cases hc
theorem sndE_opn {o : OpN} {es : E} (ha : SndEs g C es) : SndE g C (.opn o es) := by
  intro Γ k X e st sx S0 H0 S H σ δ ex P hc hh ft hw
  simp only [chkE] at hc
  split at hc
  · rename_i x hs
    cases o
    simp [subN] at hs
  · cases hc
end
end Dl

set_option Elab.async false
set_option linter.all false
set_option maxRecDepth 100000
set_option maxHeartbeats 4000000
/-! Dl: isinstance, what is walked. -/
namespace Dl
open PySem PySem.Spec PyProof.Rows L2
section
variable {g : Gb} {C : Ct} {Γ : Sc} {k : Nat} {X : Cx} {st sx : Option StA} {S0 H0 S H S1 H1 H' : Hp} {σ : L2.St} {δ : List Sl} {ex : XD → Prop} {P : R → Prop} {v x y : V}
def clsV (g : Gb) : Ty → V
  | .b n => .ty n
  | .c y => .ref (g.cl y)
theorem clsV_ok {t : Ty} : ClsV (clsV g t) (tyV g t) := by
  cases t with
  | b n => exact .ty n
  | c y => exact .own _
theorem ty_pe {t : Ty} {e : Expr} (cx : CxG g Γ k X) (ct : CtOk g C k) (hc : chkTy Γ C.free t e = true) (hm : ∀ y, t = .c y → C.cls y = true) : PE X e (tC (clsV g t)) := by
  cases t with
  | b n =>
    cases e <;> try (simp [chkTy] at hc; done)
    simp only [chkTy] at hc
    obtain ⟨h1, h2⟩ := ba hc
    obtain ⟨h1, h3⟩ := ba h1
    obtain ⟨h1, h4⟩ := ba h1
    obtain ⟨h1, h5⟩ := ba h1
    exact pe_bltn (glB_ok cx h1) (cx.ok.gl (ct.free _ h4)) (isTyN_ok h3) rfl (ne_name h2) (noDbg_ok h5)
  | c y =>
    cases e <;> try (simp [chkTy] at hc; done)
    simp only [chkTy] at hc
    obtain ⟨h1, h2⟩ := ba hc
    obtain ⟨h1, h3⟩ := ba h1
    cases eq_of_beq h2
    exact pe_glob (glB_ok cx h1) (by rw [cx.ok.mg]; exact (ct.cls _ (hm _ rfl)).2) rfl (noDbg_ok h3)
theorem tys_pa {es : List Expr} : ∀ {ts : List Ty}, CxG g Γ k X → CtOk g C k → chkTys Γ C.free ts es = true → (ts.all fun t => match t with | .c y => C.cls y | .b _ => true) = true → PA X es (fun _ H Q => Q (ts.map (clsV g)) H) := by
  induction es with
  | nil =>
    intro ts cx ct hc hm
    cases ts <;> try (simp [chkTys] at hc; done)
    exact pa_nil
  | cons e es ih =>
    intro ts cx ct hc hm
    cases ts <;> try (simp [chkTys] at hc; done)
    rename_i t ts
    simp only [chkTys] at hc
    obtain ⟨h1, h2⟩ := ba hc
    obtain ⟨h1, h3⟩ := ba h1
    rw [List.all_cons] at hm
    obtain ⟨m1, m2⟩ := ba hm
    exact pa_cons (ty_pe cx ct h3 (by rintro y rfl; exact m1)) (ih cx ct h2 m2) (starEach_cons h1)
theorem tyx_of {d : D} {k' : Nat} (ck : CxOk g k X) (ct : CtOk g C k') (h : Rep g H d v) (hc : d.clsOk C.cls = true) : TyX X.K H v (tyV g d.tyOf) := by
  cases d with
  | non => simp only [Rep] at h; subst h; exact .base .non
  | bl b => simp only [Rep] at h; subst h; exact .base (.bl b)
  | int b => simp only [Rep] at h; subst h; exact .base (.int b)
  | str b => simp only [Rep] at h; subst h; exact .base (.str b)
  | lst xs => simp only [Rep] at h; obtain ⟨a, vs, rfl, h1, h2⟩ := h; exact .base (.lst h1)
  | frl xs =>
    simp only [Rep] at h
    obtain ⟨a, vs, rfl, h1, h2⟩ := h
    rcases h1 with (h1 | ⟨o, h1⟩) | h1
    · exact .base (.lst h1)
    · exact .base (.frz h1)
    · obtain ⟨o, its, n, e, c, _⟩ := h1
      rw [ck.K]
      exact .kList e c
  | tup xs =>
    simp only [Rep] at h
    obtain ⟨a, vs, rfl, h1, h2⟩ := h
    rcases h1 with (h1 | ⟨o, h1⟩) | h1
    · exact .base (.tup h1)
    · exact .fTuple h1
    · obtain ⟨o, its, n, e, c, _⟩ := h1
      rw [ck.K]
      exact .kTuple e c
  | dct kvs =>
    simp only [Rep] at h
    obtain ⟨a, vs, rfl, h1, h2⟩ := h
    rcases h1 with h1 | ⟨o, h1⟩
    · exact .base (.dK h1)
    · exact .fDict h1
  | obj c fs =>
    simp only [Rep] at h
    obtain ⟨a, dx, gs, rfl, h1, h2⟩ := h
    obtain ⟨i, _⟩ := ct.cls _ hc
    rw [ck.K]
    exact .base (.ins h1 i.cl i.ha i.hn i.htk i.hm)
theorem kit_any {t : Value} {s : Ty} {k' : Nat} (ct : CtOk g C k') (hs : tyV g s = t) : ∀ {ts : List Ty} {b : Bool}, isaAny C.isa s ts = some b → PySem.W.kitAny g.K t (ts.map (tyV g)) = some b
  | [], b, h => by cases h; rfl
  | c :: ts, b, h => by
    unfold isaAny at h
    subst hs
    split at h
    · rename_i e
      cases h
      exact kitAny_cons (ct.isa _ _ _ e) (fun z => nomatch z) fun _ => rfl
    · rename_i e
      exact kitAny_cons (ct.isa _ _ _ e) (fun _ => kit_any ct rfl h) fun z => nomatch z
    · cases h
theorem pair_cls : ∀ {ts : List Ty}, Paired ClsV (ts.map (clsV g)) (ts.map (tyV g))
  | [] => .nil
  | t :: ts => .cons clsV_ok pair_cls
theorem sndE_isi {a : E} {ts : List Ty} (ha : SndE g C a) : SndE g C (.isi a ts) := by
  intro Γ k X e st sx S0 H0 S H σ δ ex P hc hh ft hw
  simp only [wE] at hw
  obtain ⟨hm, hw⟩ := hw
  cases e <;> try (simp [chkE] at hc; done)
  rename_i fn xs kws p
  cases fn <;> try (cases ts <;> simp [chkE] at hc; done)
  cases kws <;> try (cases ts <;> simp [chkE] at hc; done)
  rcases xs with _ | ⟨e, _ | ⟨y, _ | _⟩⟩ <;> try (cases ts <;> simp [chkE] at hc; done)
  rename_i x px
  have key : ∀ (tc : TE), (glB Γ.sc x && noDbg x && C.free x && isBi x "isinstance" && x != "__name__" && nonStar e) = true → chkE C.free Γ a e = true → nonStar y = true → PE X y tc →
      (∀ S1 H1 r v, Step (up st (costE C a)) S H S1 H1 → RepR g (up st (costE C a)) H0 S1 H H1 r v → (match r.see with
      | some d => d.clsOk C.cls = true ∧ (match isaAny C.isa d.tyOf ts with | some b => P (.val (.bl b)) | none => False)
      | none => False) → tc σ H1 fun u H2 => callW X (.builtin "isinstance") [v, u] H2 (Post g (up st (costE C a)) H0 S H P)) → RunE X (.Call (.Name x px) [e, y] [] p) σ H (Post g (up st (costE C a)) H0 S H P) := by
    intro tc h1 h3 hy ht hk
    obtain ⟨h1, h4⟩ := ba h1
    obtain ⟨h1, h5⟩ := ba h1
    obtain ⟨h1, h6⟩ := ba h1
    obtain ⟨h1, h7⟩ := ba h1
    obtain ⟨h1, h8⟩ := ba h1
    have z1 := starEach_cons (xs := []) (env := X.env) hy
    refine RunE.of (pe_callB callW_ok (glB_ok hh.cx h1) (hh.cx.ok.gl (hh.ct.free _ h7)) (isBi_ok h6) (pa_cons pe_run (pa_cons ht pa_nil z1) (starEach_cons h4)) (ne_name h5) (noDbg_ok h8) (starEach_cons h4) (by rw [z1]; rfl)) ?_
    refine (ha h3 hh ft hw).mono fun v1 H1 ⟨S1, ra, s1, r1, w1⟩ => ?_
    exact hk S1 H1 ra v1 s1 r1 w1
  cases y <;> try (rcases ts with _ | ⟨t, _ | _⟩ <;> simp [chkE] at hc; done)
  · rename_i z q
    rcases ts with _ | ⟨t, _ | _⟩ <;> try (simp [chkE] at hc; done)
    simp only [chkE] at hc
    obtain ⟨h1, h2⟩ := ba hc
    obtain ⟨h1, h3⟩ := ba h1
    refine key _ h1 h3 rfl (ty_pe hh.cx hh.ct h2 (by rintro y rfl; simpa using hm)) fun S1 H1 r v s1 r1 w1 => ?_
    split at w1
    · rename_i d e1
      obtain ⟨w1, w2⟩ := w1
      split at w2
      · rename_i b e2
        refine (callw call_isi ⟨v, clsV g t, tyV g d.tyOf, tyV g t, b, rfl, clsV_ok, tyx_of hh.cx.ok hh.ct (r1.see s1.ok e1) w1, ?_, (Post.val s1.ok (by simp only [Rep]) w2 : Post g _ H0 S1 H1 P _ H1)⟩).mono fun v H' p => p.up hh.o.up s1
        have z : C.isa d.tyOf t = some b := by
          unfold isaAny at e2
          split at e2
          · rename_i e3; rw [e3, ← e2]
          · rename_i e3; simp [isaAny] at e2; rw [e3, e2]
          · cases e2
        rw [hh.cx.ok.K]
        exact hh.ct.isa _ _ _ z
      · exact w2.elim
    · exact w1.elim
  · rename_i es n q
    rcases ts with _ | ⟨t, ts⟩ <;> try (simp [chkE] at hc; done)
    have hc' : (decide (ts.length < 30) && (glB Γ.sc x && noDbg x && C.free x && isBi x "isinstance" && x != "__name__" && nonStar e && chkE C.free Γ a e && chkTys Γ C.free (t :: ts) es)) = true := by
      cases ts <;> simpa only [chkE] using hc
    obtain ⟨hl, hc'⟩ := ba hc'
    have hl := of_decide_eq_true hl
    obtain ⟨h1, h2⟩ := ba hc'
    obtain ⟨h1, h3⟩ := ba h1
    refine key _ h1 h3 rfl (pe_tup (tys_pa hh.cx hh.ct h2 hm)) fun S1 H1 r v s1 r1 w1 => ?_
    split at w1
    · rename_i d e1
      obtain ⟨w1, w2⟩ := w1
      split at w2
      · rename_i b e2
        refine ⟨?_, fun p hp => ?_⟩
        · rw [List.length_map, List.length_cons, sizeLine_eq]
          omega
        · have s2 := Step.newOut (u := HO.tup ((t :: ts).map (clsV g))) s1.ok hp
          refine (callw call_isiT ⟨v, p, _, tyV g d.tyOf, (t :: ts).map (tyV g), b, rfl, upd_same, pair_cls, tyx_of hh.cx.ok hh.ct (Rep.mono (Ex.new hp) _ _ (r1.see s1.ok e1)) w1, ?_, (Post.val s2.ok (by simp only [Rep]) w2 : Post g _ H0 S1 _ P _ _)⟩).mono fun v H' p => p.up hh.o.up (s1.trans s2)
          rw [hh.cx.ok.K]
          exact kit_any hh.ct rfl e2
      · exact w2.elim
    · exact w1.elim
/-! repr -/
mutual
theorem short_of : ∀ d : PyData, d.showable = true → d.intsShort 1921 = true
  | .none, _ => rfl
  | .bool _, _ => rfl
  | .int i, h => by
    simp only [PyData.showable, decide_eq_true_eq] at h
    simp only [PyData.intsShort, decide_eq_true_eq, PyData.shown]
    exact decide_eq_true (PyProof.Rows.int_text_len_1921 h)
  | .str _, _ => rfl
  | .list xs, h => by
    simp only [PyData.intsShort]
    exact short_all xs (by simpa only [PyData.showable] using h)
  | .tuple xs, h => by
    simp only [PyData.intsShort]
    exact short_all xs (by simpa only [PyData.showable] using h)
  | .dict _, _ => rfl
theorem short_all : ∀ ds : List PyData, PyData.showableAll ds = true → PyData.intsShortAll 1921 ds = true
  | [], _ => rfl
  | d :: ds, h => by
    simp only [PyData.showableAll, Bool.and_eq_true] at h
    simp only [PyData.intsShortAll, Bool.and_eq_true]
    exact ⟨short_of d h.1, short_all ds h.2⟩
end
theorem okP_ok {p : PyData} (h : okP p = true) : p.showable = true ∧ p.canLay0 = true ∧ p.depth ≤ 8 ∧ p.shown.length ≤ sizeLine := by
  unfold okP at h
  obtain ⟨h, h4⟩ := ba h
  obtain ⟨h, h3⟩ := ba h
  obtain ⟨h1, h2⟩ := ba h
  have h3 := of_decide_eq_true h3
  have h4 := of_decide_eq_true h4
  refine ⟨h1, h2, h3, ?_⟩
  have hi : ∀ d : PyData, d.showable = true → d.intsShort 1921 = true := fun d hd => short_of d hd
  have := PyData.shown_le_bulk 1921 (by decide) p (PyData.leavesShort_of_canLay0 1921 p h2 (hi p h1))
  rw [sizeLine_eq]
  omega
theorem call_repr (hg : X.A.guards = some []) (hu : X.A.units + 64 < cLine) : CallR X (.builtin "repr") (fun xs H Q => ∃ (x : V) (p : PyData), xs = [x] ∧ Dp X.K H x p ∧ okP p = true ∧ Q (.str p.shown) H) := by
  intro pins s σ H xs us Q I r h
  obtain ⟨x, p, rfl, hd, ok, q⟩ := h
  obtain ⟨u, rfl, ru⟩ := vals1 r
  obtain ⟨h1, h2, h3, h4⟩ := okP_ok ok
  obtain ⟨as, rd⟩ := Dp.reads I p x u hd ru
  have fin : ∀ h' t tk, (∀ b o, s.heap.get? b = some o → h'.get? b = some o) → EP X pins σ Q (.str p.shown t) { s with heap := h', toks := tk } := fun h' t tk hk => ⟨.str p.shown, H, I.kept (t' := tk) hk, ⟨t, rfl⟩, q⟩
  have ref : ∀ a, u = .ref a → wpAny (model X.prog X.w) X.A (call (.builtin "repr") [u]) (EP X pins σ Q) X.xe s := by
    rintro a rfl
    exact repr_of_reads' rd h1 (fun z => by rw [PyData.hasDict_of_canLay p h2] at z; cases z) hg (by omega) (fun _ _ e => e) fin h4
  cases rd with
  | none => exact PySem.P.repr_of_none (fin s.heap s.toks _ fun _ _ e => e)
  | bool b => exact PySem.P.repr_of_bool (fin s.heap s.toks _ fun _ _ e => e)
  | int i t => exact PySem.P.repr_of_int (by simpa [PyData.showable] using h1) (fin s.heap s.toks _ fun _ _ e => e)
  | str y t => exact PySem.P.repr_of_str (fin s.heap s.toks _ fun _ _ e => e) (by simpa [PyData.shown] using h4)
  | list _ _ _ _ => exact ref _ rfl
  | tuple _ _ _ _ => exact ref _ rfl
  | dict _ _ _ _ _ => exact ref _ rfl
theorem sndE_rpr {a : E} (ha : SndE g C a) : SndE g C (.rpr a) := by
  intro Γ k X e st sx S0 H0 S H σ δ ex P hc hh ft hw
  simp only [chkE] at hc
  split at hc <;> try (cases hc; done)
  rename_i x e q
  obtain ⟨px, p, rfl⟩ := callN_ok q
  obtain ⟨a1, h2⟩ := ba hc
  obtain ⟨a2, h3⟩ := ba a1
  obtain ⟨a3, h4⟩ := ba a2
  obtain ⟨a4, h5⟩ := ba a3
  obtain ⟨a5, h6⟩ := ba a4
  obtain ⟨h7, h1⟩ := ba a5
  have e4 := eq_of_beq h4
  subst e4
  simp only [wE] at hw
  have hm := hh.cx.ok.gl (hh.ct.free _ h5)
  have z2 := starEach_cons (xs := []) (env := X.env) h3
  refine RunE.of (pe_callB (call_repr (hh.cx.gd h7) hh.cx.ok.room.units) (glB_ok hh.cx h1) hm (by decide +kernel) (pa_cons pe_run pa_nil z2) (by decide) (noDbg_ok h6) z2 rfl) ?_
  refine (ha h2 hh ft hw).mono fun v1 H1 ⟨S1, ra, s1, r1, w1⟩ => ?_
  dsimp only at w1
  split at w1
  · rename_i d e1
    split at w1
    · rename_i p e2
      refine ⟨v1, p, rfl, by rw [hh.cx.ok.K]; exact (r1.see s1.ok e1).dp e2, w1.1, ?_⟩
      exact (Post.val s1.ok (by simp only [Rep]) w1.2 : Post g _ H0 S1 H1 P _ H1).up hh.o.up s1
    · exact w1.elim
  · exact w1.elim
/-! what is walked -/
theorem sndI_itV {a : E} (ha : SndE g C a) : SndI g C (.itV a) := by
  intro Γ k X tg e st sx S0 H0 S H σ δ ex P hc hh ft hw
  simp only [chkIt] at hc
  simp only [wIt] at hw
  refine RunI.of (pi_seq pe_run) ?_
  refine (ha hc hh ft hw).mono fun v1 H1 ⟨S1, ra, s1, r1, w1⟩ => ?_
  dsimp only at w1
  split at w1
  · rename_i o xs e1
    cases ra with
    | val d =>
      cases d <;> simp [itOf] at e1
      · obtain ⟨rfl, rfl⟩ := e1
        simp only [RepR, Rep] at r1
        subst r1
        exact .inr (.inr ⟨_, rfl, S1, _, _, s1, w1, walkD_str⟩)
      · obtain ⟨rfl, rfl⟩ := e1
        simp only [RepR, Rep] at r1
        obtain ⟨a, vs, rfl, h1, h2⟩ := r1
        exact .inl ⟨a, vs, rfl, SqL.of (s1.sub _ _ h1), S1, _, _, s1, w1, by rw [hh.cx.ok.K]; exact walkD_list s1.ok (s1.sub _ _ h1) (notSt s1.ok h1) (.inl (by rw [h1]; simp)) h2⟩
      · obtain ⟨rfl, rfl⟩ := e1
        simp only [RepR, Rep] at r1
        obtain ⟨a, vs, rfl, h1, h2⟩ := r1
        exact .inr (.inl ⟨a, vs, rfl, by rw [hh.cx.ok.K]; exact s1.sub.t h1, S1, _, _, s1, w1, by rw [hh.cx.ok.K]; exact walkD_tup h1 h2⟩)
      · obtain ⟨rfl, rfl⟩ := e1
        simp only [RepR, Rep] at r1
        obtain ⟨a, vs, rfl, h1, h2⟩ := r1
        exact .inl ⟨a, vs, rfl, by rw [hh.cx.ok.K]; exact s1.sub.l h1, S1, _, _, s1, w1, by rw [hh.cx.ok.K]; exact walkD_frl h1 h2⟩
    | fresh ys =>
      simp [itOf] at e1
      obtain ⟨rfl, rfl⟩ := e1
      obtain ⟨S2, a1, a2, a3, _⟩ := r1.dat s1 rfl
      simp only [Rep] at a3
      obtain ⟨a, vs, rfl, h1, h2⟩ := a3
      exact .inl ⟨a, vs, rfl, SqL.of (a1.sub _ _ h1), S2, _, _, a1, w1, by rw [hh.cx.ok.K]; exact walkD_list a1.ok (a1.sub _ _ h1) (notSt a1.ok h1) (.inl (by rw [h1]; simp)) h2⟩
    | brw b ys =>
      simp [itOf] at e1
      obtain ⟨rfl, rfl⟩ := e1
      obtain ⟨a, vs, rfl, h1, h2, h3, h4⟩ := r1.lvo s1.ok (xs := ys) rfl
      have h5 : S1 a ≠ none ∨ b = true ∨ H0 a ≠ none := by
        rcases h4 with ⟨d, e, _⟩ | ⟨d, e, _⟩ | ⟨b', zs, e, h⟩
        · cases e
        · cases e
        · cases e; exact h
      exact .inl ⟨a, vs, rfl, SqL.of h1, S1, _, _, s1, w1, by rw [hh.cx.ok.K]; exact walkD_list s1.ok h1 h2 h5 h3⟩
    | _ => simp [itOf] at e1
  · exact w1.elim
theorem wRng1 {r : R} {P : Bool → List D → Prop} (h : wRng [r] P) : ∃ n, r = .val (.int n) ∧ (-(2 ^ 62) ≤ n ∧ n < 2 ^ 62) ∧ P false ((List.range n.toNat).map fun i => .int (i : Nat)) := by
  cases r with
  | val d =>
    cases d with
    | int n => exact ⟨n, rfl, h⟩
    | _ => exact (show False from h).elim
  | _ => exact (show False from h).elim
theorem wRng2 {r t : R} {P : Bool → List D → Prop} (h : wRng [r, t] P) : ∃ a b, r = .val (.int a) ∧ t = .val (.int b) ∧ (-(2 ^ 62) ≤ a ∧ a < 2 ^ 62 ∧ -(2 ^ 62) ≤ b ∧ b < 2 ^ 62) ∧ P false ((List.range (b - a).toNat).map fun (i : Nat) => .int (a + i)) := by
  cases r with
  | val d =>
    cases d with
    | int n =>
      cases t with
      | val d =>
        cases d with
        | int m => exact ⟨n, m, rfl, rfl, h⟩
        | _ => exact (show False from h).elim
      | _ => exact (show False from h).elim
    | _ => exact (show False from h).elim
  | _ => exact (show False from h).elim
theorem sndI_rng1 {a : E} (ha : SndE g C a) : SndI g C (.itRng (.cons a .nil)) := by
  intro Γ k X tg e st sx S0 H0 S H σ δ ex P hc hh ft hw
  cases e <;> try (simp [chkIt] at hc; done)
  rename_i fn xs kws p
  cases fn <;> try (simp [chkIt] at hc; done)
  cases kws <;> try (simp [chkIt] at hc; done)
  rename_i x px
  simp only [chkIt] at hc
  obtain ⟨a1, h2⟩ := ba hc
  obtain ⟨a2, h3⟩ := ba a1
  obtain ⟨a3, h4⟩ := ba a2
  obtain ⟨a4, h5⟩ := ba a3
  obtain ⟨h1, h6⟩ := ba a4
  have e4 := eq_of_beq h4
  subst e4
  simp only [wIt, wEs] at hw
  have hm := hh.cx.ok.gl (hh.ct.free _ h5)
  rcases xs with _ | ⟨e, _ | _⟩ <;> try (simp [chkEs] at h2; done)
  simp only [chkEs] at h2
  obtain ⟨k1, k2⟩ := ba h2
  obtain ⟨k1, k3⟩ := ba k1
  refine RunI.of (pi_range1 (glB_ok hh.cx h1) hm (pa_cons pe_run pa_nil (starEach_cons k1)) (starEach_cons (xs := []) k1)) ?_
  refine (ha k3 hh (show Fit st sx (costE C a + 0) from ft).l hw).mono fun v H1 ⟨S1, r, s1, r1, w1⟩ => ?_
  obtain ⟨n, rfl, hn, w1⟩ := wRng1 w1
  simp only [RepR, Rep] at r1
  subst r1
  refine ⟨n, rfl, hn.1, hn.2, S1, false, _, s1, w1, ?_⟩
  have := walkD_range (g := g) (st := up st (costE C (.itRng (.cons a .nil)))) (H0 := H0) (S := S1) (H := H1) (o := false) (lo := 0) (n := n.toNat)
  simpa using this
theorem sndI_rng2 {a b : E} (ha : SndE g C a) (hb : SndE g C b) : SndI g C (.itRng (.cons a (.cons b .nil))) := by
  intro Γ k X tg e st sx S0 H0 S H σ δ ex P hc hh ft hw
  cases e <;> try (simp [chkIt] at hc; done)
  rename_i fn xs kws p
  cases fn <;> try (simp [chkIt] at hc; done)
  cases kws <;> try (simp [chkIt] at hc; done)
  rename_i x px
  simp only [chkIt] at hc
  obtain ⟨a1, h2⟩ := ba hc
  obtain ⟨a2, h3⟩ := ba a1
  obtain ⟨a3, h4⟩ := ba a2
  obtain ⟨a4, h5⟩ := ba a3
  obtain ⟨h1, h6⟩ := ba a4
  have e4 := eq_of_beq h4
  subst e4
  simp only [wIt, wEs] at hw
  have hm := hh.cx.ok.gl (hh.ct.free _ h5)
  rcases xs with _ | ⟨e, _ | ⟨f, _ | _⟩⟩ <;> try (simp [chkEs] at h2; done)
  simp only [chkEs] at h2
  obtain ⟨k1, k2⟩ := ba h2
  obtain ⟨k1, k3⟩ := ba k1
  obtain ⟨k2, _⟩ := ba k2
  obtain ⟨k2, k4⟩ := ba k2
  have z2 := starEach_cons (xs := []) (env := X.env) k2
  refine RunI.of (pi_range2 (glB_ok hh.cx h1) hm (pa_cons pe_run (pa_cons pe_run pa_nil z2) (starEach_cons k1)) (by rw [starEach_cons k1, z2]; rfl) z2) ?_
  refine (ha k3 hh ft.l hw).mono fun v H1 ⟨S1, r, s1, r1, w1⟩ => ?_
  refine (hb k4 (hh.next s1) (show Fit _ sx (costE C b + 0) from ft.r).l w1).mono fun u H2 ⟨S2, r', s2, r2, w2⟩ => ?_
  obtain ⟨n, m, rfl, rfl, hn, w2⟩ := wRng2 w2
  simp only [RepR, Rep] at r1 r2
  subst r1 r2
  exact ⟨n, m, rfl, hn, S2, false, _, (s1.tr s2).c2, w2, walkD_range⟩
theorem sndI_enum {a : E} (ha : SndE g C a) : SndI g C (.itEnum a) := by
  intro Γ k X tg e st sx S0 H0 S H σ δ ex P hc hh ft hw
  simp only [chkIt] at hc
  split at hc <;> try (cases hc; done)
  rename_i x e q
  obtain ⟨px, p, rfl⟩ := callN_ok q
  obtain ⟨a1, h2⟩ := ba hc
  obtain ⟨a2, h3⟩ := ba a1
  obtain ⟨a3, h4⟩ := ba a2
  obtain ⟨a4, h5⟩ := ba a3
  obtain ⟨a5, h6⟩ := ba a4
  obtain ⟨h7, h1⟩ := ba a5
  have e4 := eq_of_beq h4
  subst e4
  simp only [wIt] at hw
  have hm := hh.cx.ok.gl (hh.ct.free _ h5)
  cases tg <;> try (simp [isTupE] at h7; done)
  have z2 := starEach_cons (xs := []) (env := X.env) h3
  refine RunI.of (pi_enumA (glB_ok hh.cx h1) hm (pa_cons pe_run pa_nil z2) z2) ?_
  refine (ha h2 hh ft hw).mono fun v1 H1 ⟨S1, ra, s1, r1, w1⟩ => ?_
  dsimp only at w1
  split at w1
  · rename_i xs
    simp only [RepR, Rep] at r1
    obtain ⟨a, vs, rfl, h1, h2⟩ := r1
    exact ⟨a, vs, rfl, .inr ⟨by rw [hh.cx.ok.K]; exact s1.sub.t h1, S1, false, _, s1, w1, by rw [hh.cx.ok.K]; exact walkD_enumT h1 h2⟩⟩
  · rename_i b ys
    obtain ⟨a, vs, rfl, h1, h2, h3, h4⟩ := r1.lvo s1.ok (xs := ys) rfl
    have h5 : S1 a ≠ none ∨ b = true ∨ H0 a ≠ none := by
      rcases h4 with ⟨d, e, _⟩ | ⟨d, e, _⟩ | ⟨b', zs, e, h⟩
      · cases e
      · cases e
      · cases e; exact h
    exact ⟨a, vs, rfl, .inl ⟨SqL.of h1, S1, _, _, s1, w1, by rw [hh.cx.ok.K]; exact walkD_enumL s1.ok h1 h2 h5 h3⟩⟩
  · split at w1
    · rename_i z xs e1
      cases ra with
      | val d =>
        obtain ⟨a, vs, rfl, h1, h2, h3, h4⟩ := r1.lvo s1.ok e1
        have h5 : S1 a ≠ none := by
          rcases h4 with ⟨d, e, z⟩ | ⟨d, e, _⟩ | ⟨b', zs, e, h⟩
          · rw [z]; simp
          · cases e
          · cases e
        exact ⟨a, vs, rfl, .inl ⟨SqL.of h1, S1, _, _, s1, w1, by rw [hh.cx.ok.K]; exact walkD_enumL s1.ok h1 h2 (.inl h5) h3⟩⟩
      | fresh ys =>
        cases e1
        obtain ⟨S2, a1, a2, a3, _⟩ := r1.dat s1 rfl
        simp only [Rep] at a3
        obtain ⟨a, vs, rfl, h1, h2⟩ := a3
        exact ⟨a, vs, rfl, .inl ⟨SqL.of (a1.sub _ _ h1), S2, _, _, a1, w1, by rw [hh.cx.ok.K]; exact walkD_enumL a1.ok (a1.sub _ _ h1) (notSt a1.ok h1) (.inl (by rw [h1]; simp)) h2⟩⟩
      | brw b ys => rename_i z; exact (z b ys rfl).elim
      | _ => cases e1
    · exact w1.elim
theorem sndI_zip {a b : E} (ha : SndE g C a) (hb : SndE g C b) : SndI g C (.itZip a b) := by
  intro Γ k X tg e st sx S0 H0 S H σ δ ex P hc hh ft hw
  simp only [chkIt] at hc
  split at hc <;> try (cases hc; done)
  rename_i x e f q
  obtain ⟨px, p, rfl⟩ := callN_ok q
  obtain ⟨a1, h2⟩ := ba hc
  obtain ⟨a2, h3⟩ := ba a1
  obtain ⟨a3, h4⟩ := ba a2
  obtain ⟨a4, h5⟩ := ba a3
  obtain ⟨a5, h6⟩ := ba a4
  obtain ⟨a6, h7⟩ := ba a5
  obtain ⟨a7, h8⟩ := ba a6
  obtain ⟨h9, h1⟩ := ba a7
  have e4 := eq_of_beq h6
  subst e4
  simp only [wIt] at hw
  have hm := hh.cx.ok.gl (hh.ct.free _ h7)
  cases tg <;> try (simp [isTupE] at h9; done)
  have z2 := starEach_cons (xs := []) (env := X.env) h4
  refine RunI.of (RZ.pi_zipA (glB_ok hh.cx h1) hm (pa_cons pe_run (pa_cons pe_run pa_nil z2) (starEach_cons h5)) (starEach_cons h5) (by rw [z2]; rfl)) ?_
  refine (ha h3 hh ft.l hw).mono fun v1 H1 ⟨S1, ra, s1, r1, w1⟩ => ?_
  refine (hb h2 (hh.next s1) ft.r w1).mono fun v2 H2 ⟨S2, rb, s2, r2, w2⟩ => ?_
  dsimp only at w2
  split at w2
  · simp only [RepR, Rep] at r1 r2
    obtain ⟨a, vs, rfl, h1, h2⟩ := r1
    obtain ⟨b, ws, rfl, h3, h4⟩ := r2
    have h1 := s2.ext _ _ h1
    exact ⟨a, b, vs, ws, rfl, .inl ⟨SqL.of (s2.sub _ _ h1), SqL.of (s2.sub _ _ h3), S2, false, _, (s1.tr s2).c2, w2, by rw [hh.cx.ok.K]; exact walkD_zipL (s1.tr s2).c2.ok h1 h3 (Reps.mono s2.ext _ _ h2) h4⟩⟩
  · simp only [RepR, Rep] at r1 r2
    obtain ⟨a, vs, rfl, h1, h2⟩ := r1
    obtain ⟨b, ws, rfl, h3, h4⟩ := r2
    have h1 := s2.ext.t h1
    exact ⟨a, b, vs, ws, rfl, .inr ⟨by rw [hh.cx.ok.K]; exact s2.sub.t h1, by rw [hh.cx.ok.K]; exact s2.sub.t h3, S2, false, _, (s1.tr s2).c2, w2, by rw [hh.cx.ok.K]; exact walkD_zipT h1 h3 (Reps.mono s2.ext _ _ h2) h4⟩⟩
  · exact w2.elim
theorem sndI_zipN {a b : E} (ha : SndE g C a) (hb : SndE g C b) : SndI g C (.itZipN a b) := by
  intro Γ k X tg e st sx S0 H0 S H σ δ ex P hc hh ft hw
  cases tg <;> try (simp [chkIt] at hc; done)
  simp only [chkIt] at hc
  split at hc <;> try (cases hc; done)
  rename_i x e f q
  obtain ⟨px, p, rfl⟩ := callN_ok q
  obtain ⟨a1, h2⟩ := ba hc
  obtain ⟨a2, h3⟩ := ba a1
  obtain ⟨a3, h4⟩ := ba a2
  obtain ⟨a4, h5⟩ := ba a3
  obtain ⟨a5, h6⟩ := ba a4
  obtain ⟨a6, h7⟩ := ba a5
  obtain ⟨h1, h8⟩ := ba a6
  have e4 := eq_of_beq h6
  subst e4
  simp only [wIt] at hw
  have hm := hh.cx.ok.gl (hh.ct.free _ h7)
  have z2 := starEach_cons (xs := []) (env := X.env) h4
  refine RunI.of (pi_zipN (glB_ok hh.cx h1) hm (pa_cons pe_run (pa_cons pe_run pa_nil z2) (starEach_cons h5)) (starEach_cons h5) (by rw [z2]; rfl)) ?_
  refine (ha h3 hh ft.l hw).mono fun v1 H1 ⟨S1, ra, s1, r1, w1⟩ => ?_
  refine (hb h2 (hh.next s1) ft.r w1).mono fun v2 H2 ⟨S2, rb, s2, r2, w2⟩ => ?_
  dsimp only at w2
  split at w2
  · simp only [RepR, Rep] at r1 r2
    obtain ⟨a, vs, rfl, h1, h2⟩ := r1
    obtain ⟨b, ws, rfl, h3, h4⟩ := r2
    have h1 := s2.ext _ _ h1
    exact ⟨a, b, vs, ws, rfl, SqL.of (s2.sub _ _ h1), SqL.of (s2.sub _ _ h3), S2, false, _, (s1.tr s2).c2, w2, by rw [hh.cx.ok.K]; exact walkD_zipL (s1.tr s2).c2.ok h1 h3 (Reps.mono s2.ext _ _ h2) h4⟩
  · exact w2.elim
theorem sndI_rev {a : E} (ha : SndE g C a) : SndI g C (.itRev a) := by
  intro Γ k X tg e st sx S0 H0 S H σ δ ex P hc hh ft hw
  simp only [chkIt] at hc
  split at hc <;> try (cases hc; done)
  rename_i x e q
  obtain ⟨px, p, rfl⟩ := callN_ok q
  obtain ⟨a1, h2⟩ := ba hc
  obtain ⟨a2, h3⟩ := ba a1
  obtain ⟨a3, h4⟩ := ba a2
  obtain ⟨a4, h5⟩ := ba a3
  obtain ⟨h1, h6⟩ := ba a4
  have e4 := eq_of_beq h4
  subst e4
  simp only [wIt] at hw
  have hm := hh.cx.ok.gl (hh.ct.free _ h5)
  have z2 := starEach_cons (xs := []) (env := X.env) h3
  refine RunI.of (RT.pi_revA (glB_ok hh.cx h1) hm pe_run z2) ?_
  refine (ha h2 hh ft hw).mono fun v1 H1 ⟨S1, ra, s1, r1, w1⟩ => ?_
  dsimp only at w1
  split at w1
  · rename_i b ys
    obtain ⟨a, vs, rfl, h1, h2, h3, h4⟩ := r1.lvo s1.ok (xs := ys) rfl
    have h5 : S1 a ≠ none ∨ b = true ∨ H0 a ≠ none := by
      rcases h4 with ⟨d, e, _⟩ | ⟨d, e, _⟩ | ⟨b', zs, e, h⟩
      · cases e
      · cases e
      · cases e; exact h
    exact ⟨a, vs, rfl, .inl ⟨SqL.of h1, S1, _, _, s1, w1, by rw [hh.cx.ok.K]; exact walkD_rev s1.ok h1 h2 h5 h3⟩⟩
  · split at w1
    · rename_i z xs e1
      cases ra with
      | val d =>
        obtain ⟨a, vs, rfl, h1, h2, h3, h4⟩ := r1.lvo s1.ok e1
        have h5 : S1 a ≠ none := by
          rcases h4 with ⟨d, e, z⟩ | ⟨d, e, _⟩ | ⟨b', zs, e, h⟩
          · rw [z]; simp
          · cases e
          · cases e
        exact ⟨a, vs, rfl, .inl ⟨SqL.of h1, S1, _, _, s1, w1, by rw [hh.cx.ok.K]; exact walkD_rev s1.ok h1 h2 (.inl h5) h3⟩⟩
      | fresh ys =>
        cases e1
        obtain ⟨S2, a1, a2, a3, _⟩ := r1.dat s1 rfl
        simp only [Rep] at a3
        obtain ⟨a, vs, rfl, h1, h2⟩ := a3
        exact ⟨a, vs, rfl, .inl ⟨SqL.of (a1.sub _ _ h1), S2, _, _, a1, w1, by rw [hh.cx.ok.K]; exact walkD_rev a1.ok (a1.sub _ _ h1) (notSt a1.ok h1) (.inl (by rw [h1]; simp)) h2⟩⟩
      | brw b ys => rename_i z; exact (z b ys rfl).elim
      | _ => cases e1
    · exact w1.elim
end
end Dl

set_option Elab.async false
set_option linter.all false
set_option maxRecDepth 100000
set_option maxHeartbeats 4000000
/-! Dl: comprehensions, all expressions. -/
namespace Dl
open PySem PySem.Spec PyProof.Rows L2
section
variable {g : Gb} {C : Ct} {Γ : Sc} {k : Nat} {X : Cx} {st sx : Option StA} {S0 H0 S H S1 H1 H' : Hp} {σ : L2.St} {δ : List Sl} {ex : XD → Prop} {P : R → Prop} {v x y : V}
/-! ### targets -/
def gTg (K : PySem.W.Frag) : Tg → TG
  | .nm i => gName i
  | .t2 a b => gTup K 2 (gCons (gTg K a) (gCons (gTg K b) gNil))
  | .t3 a b c => gTup K 3 (gCons (gTg K a) (gCons (gTg K b) (gCons (gTg K c) gNil)))
theorem asgEach {e : Expr} {es : List Expr} {env : PySem.Env} (h : nonStar e = true) : assignEach (e :: es) env = (false, assign e env) :: assignEach es env := by
  cases e <;> first | rfl | cases h
theorem tg_pg {t : Tg} : ∀ {e : Expr}, X.env.scope = Γ.sc → X.N = Γ.N → X.N.Nodup → X.calm = true → (∀ x, Γ.fo x = true → X.fn x = true) → chkTg Γ t e = true → PG X e (gTg X.K t) := by
  induction t with
  | nm i =>
    intro e h1 h2 h3 h4 h5 hc
    cases e <;> try (simp [chkTg] at hc; done)
    simp only [chkTg] at hc
    obtain ⟨hc, c3⟩ := ba hc
    obtain ⟨c1, c2⟩ := ba hc
    refine pg_name h3 (by rw [h2]; exact eq_of_beq c1) (by rw [h1]; exact locB_ok c2) ?_
    rcases Bool.or_eq_true_iff.mp c3 with c | c
    · exact .inl (h5 _ c)
    · exact .inr (by rw [h1]; exact eq_of_beq c)
  | t2 a b iha ihb =>
    intro e h1 h2 h3 h4 h5 hc
    cases e <;> try (simp [chkTg] at hc; done)
    rename_i es _ _
    rcases es with _ | ⟨e, _ | ⟨f, _ | _⟩⟩ <;> try (simp [chkTg] at hc; done)
    simp only [chkTg] at hc
    obtain ⟨hc, c4⟩ := ba hc
    obtain ⟨hc, c3⟩ := ba hc
    obtain ⟨c1, c2⟩ := ba hc
    refine pg_tup h4 (pgs_cons (iha h1 h2 h3 h4 h5 c3) (pgs_cons (ihb h1 h2 h3 h4 h5 c4) pgs_nil (by rw [asgEach c2]; rfl)) (by rw [asgEach c1]; rfl)) (by rw [asgEach c1, asgEach c2]; rfl) (by rw [asgEach c1, asgEach c2]; rfl)
  | t3 a b c iha ihb ihc =>
    intro e h1 h2 h3 h4 h5 hc
    cases e <;> try (simp [chkTg] at hc; done)
    rename_i es _ _
    rcases es with _ | ⟨e, _ | ⟨f, _ | ⟨d, _ | _⟩⟩⟩ <;> try (simp [chkTg] at hc; done)
    simp only [chkTg] at hc
    obtain ⟨hc, c6⟩ := ba hc
    obtain ⟨hc, c5⟩ := ba hc
    obtain ⟨hc, c4⟩ := ba hc
    obtain ⟨hc, c3⟩ := ba hc
    obtain ⟨c1, c2⟩ := ba hc
    refine pg_tup h4 (pgs_cons (iha h1 h2 h3 h4 h5 c4) (pgs_cons (ihb h1 h2 h3 h4 h5 c5) (pgs_cons (ihc h1 h2 h3 h4 h5 c6) pgs_nil (by rw [asgEach c3]; rfl)) (by rw [asgEach c2]; rfl)) (by rw [asgEach c1]; rfl)) (by rw [asgEach c1, asgEach c2, asgEach c3]; rfl) (by rw [asgEach c1, asgEach c2, asgEach c3]; rfl)
theorem wipe_get {σ : L2.St} {j : Nat} : ∀ {vs : List Nat}, (wipe σ vs)[j]? = if j ∈ vs then (σ[j]?).map (fun _ => none) else σ[j]?
  | [] => by simp [wipe]
  | v :: vs => by
    unfold wipe
    by_cases h : v = j
    · subst h
      by_cases hv : v < (wipe σ vs).length
      · rw [List.getElem?_set_self hv]
        rw [wipe_length] at hv
        simp [hv]
      · have hv2 : ¬ v < σ.length := by rw [wipe_length] at hv; exact hv
        rw [List.getElem?_eq_none (by simpa using hv), List.getElem?_eq_none (by omega)]
        simp
    · rw [List.getElem?_set_ne h, wipe_get]
      have e : (j ∈ v :: vs) ↔ (j ∈ vs) := by simp [Ne.symm h]
      by_cases hj : j ∈ vs <;> simp [hj, Ne.symm h]
theorem wipe_set {σ : L2.St} {i : Nat} {u : Option V} {vs : List Nat} (h : i ∈ vs) : wipe (σ.set i u) vs = wipe σ vs := by
  apply List.ext_getElem?
  intro j
  rw [wipe_get, wipe_get]
  by_cases hj : j ∈ vs
  · rw [if_pos hj, if_pos hj]
    by_cases e : i = j
    · subst e
      by_cases hi : i < σ.length
      · rw [List.getElem?_set_self hi]; simp [hi]
      · rw [List.getElem?_eq_none (by simpa using hi), List.getElem?_eq_none (by omega)]
    · rw [List.getElem?_set_ne e]
  · rw [if_neg hj, if_neg hj, List.getElem?_set_ne (fun e => hj (by rw [← e]; exact h))]
theorem wipe_wipe {σ : L2.St} {vs : List Nat} : wipe (wipe σ vs) vs = wipe σ vs := by
  apply List.ext_getElem?
  intro j
  rw [wipe_get, wipe_get]
  by_cases hj : j ∈ vs
  · rw [if_pos hj, if_pos hj]; cases σ[j]? <;> rfl
  · rw [if_neg hj, if_neg hj]
/-- storing a datum into a target: some slots are set -/
theorem tg_ok (hK : X.K = g.K) {t : Tg} (o : Ok st S H) : ∀ {d : D} {v : V} {σ : L2.St} {δ : List Sl} {k : List Sl → Prop} {Q : L2.St → Hp → Prop}, Dl.Env g st H0 S H δ σ → Rep g S d v → wTg t d δ k →
    (∀ σ' δ', Dl.Env g st H0 S H δ' σ' → k δ' → (∀ vs : List Nat, (∀ i ∈ t.slots, i ∈ vs) → wipe σ' vs = wipe σ vs) → Q σ' H) → gTg X.K t v σ H Q := by
  induction t with
  | nm i =>
    intro d v σ δ k Q e r w q
    exact q _ _ (e.set_val r) w fun vs hv => wipe_set (hv i (by simp [Tg.slots]))
  | t2 a b iha ihb =>
    intro d v σ δ k Q e r w q
    simp only [wTg] at w
    split at w
    · rename_i x y
      simp only [Rep] at r
      obtain ⟨p, vs, rfl, h1, h2⟩ := r
      simp only [Reps] at h2
      obtain ⟨v1, _, rfl, r1, v2, _, rfl, r2, rfl⟩ := h2
      refine ⟨p, _, rfl, by rw [hK]; exact o.sub.t h1, rfl, v1, _, rfl, ?_⟩
      refine iha e r1 w fun σ1 δ1 e1 w1 z1 => ⟨v2, _, rfl, ?_⟩
      refine ihb e1 r2 w1 fun σ2 δ2 e2 w2 z2 => ⟨rfl, ?_⟩
      exact q _ _ e2 w2 fun vs hv => (z2 vs fun i hi => hv i (by simp [Tg.slots, hi])).trans (z1 vs fun i hi => hv i (by simp [Tg.slots, hi]))
    · exact w.elim
  | t3 a b c iha ihb ihc =>
    intro d v σ δ k Q e r w q
    simp only [wTg] at w
    split at w
    · rename_i x y z
      simp only [Rep] at r
      obtain ⟨p, vs, rfl, h1, h2⟩ := r
      simp only [Reps] at h2
      obtain ⟨v1, _, rfl, r1, v2, _, rfl, r2, v3, _, rfl, r3, rfl⟩ := h2
      refine ⟨p, _, rfl, by rw [hK]; exact o.sub.t h1, rfl, v1, _, rfl, ?_⟩
      refine iha e r1 w fun σ1 δ1 e1 w1 z1 => ⟨v2, _, rfl, ?_⟩
      refine ihb e1 r2 w1 fun σ2 δ2 e2 w2 z2 => ⟨v3, _, rfl, ?_⟩
      refine ihc e2 r3 w2 fun σ3 δ3 e3 w3 z3 => ⟨rfl, ?_⟩
      exact q _ _ e3 w3 fun vs hv => ((z3 vs fun i hi => hv i (by simp [Tg.slots, hi])).trans (z2 vs fun i hi => hv i (by simp [Tg.slots, hi]))).trans (z1 vs fun i hi => hv i (by simp [Tg.slots, hi]))
    · exact w.elim
theorem Env.setNon {i : Nat} {u : Option V} (h : Dl.Env g st H0 S H δ σ) : Dl.Env g st H0 S H (δ.set i .non) (σ.set i u) := by
  obtain ⟨hl, L, h1, h2⟩ := h
  have key : ∀ j s, (δ.set i .non)[j]? = some s → (j = i ∧ s = .non) ∨ (j ≠ i ∧ δ[j]? = some s) := fun j s e => by
    by_cases q : i = j
    · subst q
      have hj : i < δ.length := by
        have := (List.getElem?_eq_some_iff.mp e).1
        simpa using this
      rw [List.getElem?_set_self hj] at e
      exact .inl ⟨rfl, (Option.some.inj e).symm⟩
    · rw [List.getElem?_set_ne q] at e
      exact .inr ⟨Ne.symm q, e⟩
  refine ⟨by rw [List.length_set, List.length_set]; exact hl, L, fun j s e => ?_, fun j k s t ne e1 e2 m1 m2 => ?_⟩
  · rcases key j s e with ⟨_, rfl⟩ | ⟨n, e⟩
    · trivial
    · rw [List.getElem?_set_ne (Ne.symm n)]
      exact h1 j s e
  · rcases key j s e1 with ⟨_, rfl⟩ | ⟨n, e1⟩
    · cases m1
    · rcases key k t e2 with ⟨_, rfl⟩ | ⟨n, e2⟩
      · cases m2
      · exact h2 j k s t ne e1 e2 m1 m2
theorem Env.wipe (h : Dl.Env g st H0 S H δ σ) : ∀ vs : List Nat, Dl.Env g st H0 S H (wipeD δ vs) (L2.wipe σ vs)
  | [] => h
  | v :: vs => (Env.wipe h vs).setNon

/-! ### comprehensions -/
theorem takes_no {Y : Cx} : Takes Y (WishX g st S0 H0 fun _ => False) := by
  rintro u s' ⟨_, _, _, _, _, _, _, _, _, _, _, _, _, _, _, _, w⟩
  obtain ⟨_, _, _, _, hF⟩ := w
  exact hF.elim
theorem foldSet {iter : Expr} {env : PySem.Env} (h : nonSet iter = true) (x : Value) : foldedSetIterable iter env x = pure x := by
  cases iter <;> first | rfl | cases h
theorem drop_cons {xs : List D} {i : Nat} {d : D} (h : xs[i]? = some d) : xs.drop i = d :: xs.drop (i + 1) := by
  obtain ⟨hi, e⟩ := List.getElem?_eq_some_iff.mp h
  rw [List.drop_eq_getElem_cons hi, e]
theorem Step.nst (s : Step st S H S1 H1) (o : Ok st S H) {l : Addr} (h : H l = none) : ¬ isSt st l := fun z => by
  obtain ⟨u, e⟩ := o.st_some z
  rw [h] at e
  cases e
def ttB (X : Cx) (scope : Scope) (ifs : List Expr) : TT := fun σ H Q => ∀ (s : Shared) (Hb : Hp) (C' : Addr) (cl : List (Str × Addr)) (fp : List Addr), RunC (X.blk s Hb scope (compEnvC scope cl C' X.env) fp) ifs σ H Q
def teB (X : Cx) (scope : Scope) (e : Expr) : TE := fun σ H Q => ∀ (s : Shared) (Hb : Hp) (C' : Addr) (cl : List (Str × Addr)) (fp : List Addr), RunE (X.blk s Hb scope (compEnvC scope cl C' X.env) fp) e σ H Q
/-- a comprehension's checks -/
structure CompC (free : Str → Bool) (Γ : Sc) (elt : E) (t : Tg) (it cond : E) (own : List (Str × Nat)) (e tg iter : Expr) (ifs : List Expr) (scope : Scope) : Prop where
  c1 : chkE free ⟨relS scope Γ.sc, Γ.N, fun x => scope.names.lookup x == some .cell, Γ.gd⟩ elt e = true
  c2 : chkC free ⟨relS scope Γ.sc, Γ.N, fun x => scope.names.lookup x == some .cell, Γ.gd⟩ cond ifs = true
  c3 : chkIt free Γ it tg iter = true
  c4 : chkTg ⟨relS scope Γ.sc, Γ.N, fun x => scope.names.lookup x == some .cell, Γ.gd⟩ t tg = true
  c5 : (t.slots.all fun i => (own.map (·.2)).contains i) = true
  c6 : blkC Γ.N Γ.sc scope own = true
  c7 : nonSet iter = true
theorem compC_of {elt it cond : E} {t : Tg} {own : List (Str × Nat)} {m : Nat} {free : Str → Bool} {e tg iter : Expr} {ifs : List Expr} {scope : Scope} {n : Int} {pos : Pos} (hc : chkE free Γ (.comp elt t it cond own m) (.ListComp e [⟨tg, iter, ifs, n⟩] scope pos) = true) : n = 0 ∧ CompC free Γ elt t it cond own e tg iter ifs scope := by
  simp only [chkE] at hc
  obtain ⟨z0, hc⟩ := ba hc
  obtain ⟨hc, c1⟩ := ba hc
  obtain ⟨hc, c2⟩ := ba hc
  obtain ⟨hc, c3⟩ := ba hc
  obtain ⟨hc, c4⟩ := ba hc
  obtain ⟨hc, c5⟩ := ba hc
  obtain ⟨c7, c6⟩ := ba hc
  exact ⟨eq_of_beq z0, c1, c2, c3, c4, c5, c6, c7⟩
theorem cxg_blk {scope : Scope} (hh : CxG g Γ k X) (s : Shared) (Hb : Hp) (C' : Addr) (cl : List (Str × Addr)) (fp : List Addr) : CxG g ⟨relS scope Γ.sc, Γ.N, fun x => scope.names.lookup x == some .cell, Γ.gd⟩ k (X.blk s Hb scope (compEnvC scope cl C' X.env) fp) := by
  refine ⟨⟨hh.ok.prog, hh.ok.w, hh.ok.K, hh.ok.mg, hh.ok.base, hh.ok.nd, hh.ok.calm, hh.ok.room⟩, ?_, hh.N, fun x hx => hx, hh.gd⟩
  rw [← hh.sc]
  rfl
theorem tb_ok {scope : Scope} {ifs : List Expr} (s : Shared) (Hb : Hp) (C' : Addr) (cl : List (Str × Addr)) (fp : List Addr) : PTs (X.blk s Hb scope (compEnvC scope cl C' X.env) fp) ifs (ttB X scope ifs) := ⟨fun pins s' σ H Q I h => h s Hb C' cl fp pins s' I⟩
theorem eb_ok {scope : Scope} {e : Expr} (s : Shared) (Hb : Hp) (C' : Addr) (cl : List (Str × Addr)) (fp : List Addr) : PE (X.blk s Hb scope (compEnvC scope cl C' X.env) fp) e (teB X scope e) := ⟨fun pins s' σ H Q I h => h s Hb C' cl fp pins s' I⟩
theorem gb_ok {scope : Scope} {t : Tg} {tg : Expr} (hh : CxG g Γ k X) (c4 : chkTg ⟨relS scope Γ.sc, Γ.N, fun x => scope.names.lookup x == some .cell, Γ.gd⟩ t tg = true) (s : Shared) (Hb : Hp) (C' : Addr) (cl : List (Str × Addr)) (fp : List Addr) : PG (X.blk s Hb scope (compEnvC scope cl C' X.env) fp) tg (gTg X.K t) :=
  tg_pg (X := X.blk s Hb scope (compEnvC scope cl C' X.env) fp) (cxg_blk hh s Hb C' cl fp).sc hh.N hh.ok.nd hh.ok.calm (cxg_blk hh s Hb C' cl fp).fo c4
theorem comp_lc {elt it cond : E} {t : Tg} {own : List (Str × Nat)} {m : Nat} (hI : SndI g C it) (hC : SndC g C cond) (hE : SndE g C elt) {e tg iter : Expr} {ifs : List Expr} {scope : Scope} (cc : CompC C.free Γ elt t it cond own e tg iter ifs scope) (hh : Hyp g C Γ k X st sx S0 H0 S H σ δ ex) (ft : Fit st sx (costE C (.comp elt t it cond own m))) (hw : wE C (.comp elt t it cond own m) δ P ex) :
    tLc (RunI X tg iter) (gTg X.K t) (ttB X scope ifs) (teB X scope e) (own.map (·.2)) σ H (Post g (up st (costE C (.comp elt t it cond own m))) H0 S H P) := by
  obtain ⟨c1, c2, c3, c4, c5, c6, c7⟩ := cc
  simp only [wE] at hw
  have hK := hh.cx.ok.K
  have sl : ∀ i ∈ t.slots, i ∈ own.map (·.2) := fun i hi => by
    have := List.all_eq_true.mp c5 i hi
    exact List.contains_iff_mem.mp this
  have cxb := fun s Hb C' cl fp => cxg_blk (scope := scope) hh.cx s Hb C' cl fp
  refine (hI c3 hh ft.l hw).mono fun J H1 ⟨S1, o, xs, s1, ⟨w0, wm, w1⟩, G, Y, wk, hG, hY⟩ D hD => ?_
  have nD : ∀ {z : Nat}, ¬ isSt (up (up st (costE C it)) z) D := fun z => Step.nst s1 hh.o.up (Step.back hh.o.up s1 hD) (isSt_up.mp z)
  have hh1 := hh.next s1
  have ftL : ∀ i, i < xs.length → Fit (up st (costE C it)) sx (i * (costE C cond + costE C elt) + (costE C cond + costE C elt)) := fun i hi => by
    refine Fit.le (show Fit (up st (costE C it)) sx (m * (costE C cond + costE C elt)) from ft.r) ?_
    by_cases hp : 0 < costE C cond + costE C elt
    · have := wm hp
      rw [← Nat.succ_mul]
      exact Nat.mul_le_mul_right _ (by omega)
    · have : costE C cond + costE C elt = 0 := by omega
      rw [this]; simp
  refine lc_it (g := gTg X.K t) (tt := ttB X scope ifs) (te := teB X scope e) (vs := own.map (·.2)) (σ := σ) (H1 := H1) (D := D) (Qd := fun H' => Post g (up st (costE C (.comp elt t it cond own m))) H0 S H P (.ref D) H') wk (fun i H' => ∃ S' acc vs, Step (up (up st (costE C it)) (i * (costE C cond + costE C elt))) S1 H1 S' H' ∧ H' D = some (.lst vs) ∧ S' D = none ∧ Reps g S' acc vs ∧ acc.length ≤ i ∧ walkD (fun x acc k => wTg t x (wipeD δ (own.map (·.2))) fun δ' =>
      wC C cond δ' (fun b => match b with
        | true => wE C elt δ' (fun r => match r.dat with | some d => k (acc ++ [d]) | none => False) (fun _ => False)
        | false => k acc) (fun _ => False)) (xs.drop i) acc fun acc => P (.fresh acc)) ?_ ?_ ?_ ?_
  · refine ⟨S1, [], [], ?_, upd_same, s1.ok.sub.none hD, Reps.nil, Nat.le_refl _, by rw [List.drop_zero]; exact w1⟩
    rw [Nat.zero_mul, up_zero]
    exact Step.newOut s1.ok hD
  · rintro i H' hi ⟨S', acc, vs, s2, _⟩
    exact hG S' H' s2.ext s2.sub fun l u h1 h2 h3 _ => (s2.out l u h1 h2 fun z => h3 (isSt_up.mp z)).1
  · rintro i x H' H2 hi ⟨S', acc, vs, s2, d1, d2, d3, d4, d5⟩ hy
    obtain ⟨S2, d, s3, e1, r1⟩ := hY _ i S' H' x H2 s2.ok s2.ext hy hi
    rw [drop_cons e1] at d5
    simp only [walkD] at d5
    have ftI := ftL i hi
    have s23 := s2.trans s3
    have hh2 := hh1.next s23
    refine tg_ok hK s23.ok (hh2.env.wipe (own.map (·.2))) r1 d5 fun σ' δ' e2 w2 z2 => ⟨(z2 _ sl).trans wipe_wipe, fun s Hb C' cl fp => ?_⟩
    have hyp : Hyp g C ⟨relS scope Γ.sc, Γ.N, fun x => scope.names.lookup x == some .cell, Γ.gd⟩ k (X.blk s Hb scope (compEnvC scope cl C' X.env) fp) (up (up st (costE C it)) (i * (costE C cond + costE C elt))) sx S0 H0 S2 H2 σ' δ' (fun _ => False) := ⟨hh.ct, cxb s Hb C' cl fp, takes_no, hh2.fr, e2, hh.lm⟩
    have k2 : H2 D = some (.lst vs) ∧ S2 D = none := s3.out D _ d1 d2 nD
    have f1 : Fit (up (up st (costE C it)) (i * (costE C cond + costE C elt))) sx (costE C cond + costE C elt) := ftI.r
    refine (hC c2 hyp f1.l w2).mono fun b H3 ⟨S3, s4, w3⟩ => ?_
    have k3 : H3 D = some (.lst vs) ∧ S3 D = none := s4.out D _ k2.1 k2.2 fun z => nD (isSt_up.mp z)
    have tot : up (up (up (up st (costE C it)) (i * (costE C cond + costE C elt))) (costE C cond)) (costE C elt) = up (up st (costE C it)) ((i + 1) * (costE C cond + costE C elt)) := by
      rw [up_up (st := up st (costE C it)), up_up (st := up st (costE C it)), Nat.succ_mul]
      congr 1
      omega
    cases b with
    | false =>
      rw [if_neg (by simp)]
      refine ⟨S3, acc, vs, ?_, k3.1, k3.2, Reps.mono (s3.ext.trans s4.ext) _ _ d3, by omega, w3⟩
      rw [← tot]
      exact (s23.tr s4).up
    | true =>
      rw [if_pos rfl]
      intro s' Hb' C'' cl' fp'
      have hyp' : Hyp g C ⟨relS scope Γ.sc, Γ.N, fun x => scope.names.lookup x == some .cell, Γ.gd⟩ k (X.blk s' Hb' scope (compEnvC scope cl' C'' X.env) fp') (up (up (up st (costE C it)) (i * (costE C cond + costE C elt))) (costE C cond)) sx S0 H0 S3 H3 σ' δ' (fun _ => False) := ⟨hh.ct, cxb s' Hb' C'' cl' fp', takes_no, hh2.fr.tr s4, e2.stp s23.ok s4, hh.lm⟩
      refine (hE c1 hyp' f1.r w3).mono fun y H4 ⟨S4, r, s5, r5, w5⟩ => ?_
      dsimp only at w5
      split at w5
      · rename_i d e5
        obtain ⟨S5, s6, x6, r6, n6⟩ := r5.dat s5 e5
        have k4 := s6.out D _ k3.1 k3.2 fun z => nD (isSt_up.mp (isSt_up.mp z))
        have all := (s23.tr s4).tr s6
        rw [tot] at all
        have lv : vs.length = acc.length := d3.length
        refine ⟨vs, k4.1, by omega, S5, acc ++ [d], vs ++ [y], all.write hD k4.2 nD, upd_same, k4.2, (Reps.mono ((s3.ext.trans s4.ext).trans s6.ext) _ _ d3).append (Reps.one r6), by simp; omega, w5⟩
      · exact w5.elim
  · rintro H' ⟨S', acc, vs, s2, d1, d2, d3, d4, d5⟩
    rw [List.drop_length] at d5
    simp only [walkD] at d5
    have le : xs.length * (costE C cond + costE C elt) ≤ m * (costE C cond + costE C elt) := by
      by_cases hp : 0 < costE C cond + costE C elt
      · exact Nat.mul_le_mul_right _ (wm hp)
      · have : costE C cond + costE C elt = 0 := by omega
        rw [this]; simp
    refine Post.le (a := costE C it + xs.length * (costE C cond + costE C elt)) ⟨S', .fresh acc, (s1.tr s2).c2, ⟨D, vs, rfl, d1, d2, Step.back hh.o.up s1 hD, fun z => nD (z := 0) (isSt_up.mpr (isSt_up.mpr (isSt_up.mp z))), d3⟩, d5⟩ (Nat.add_le_add_left le _)

theorem sndE_comp {elt it cond : E} {t : Tg} {own : List (Str × Nat)} {m : Nat} (hI : SndI g C it) (hC : SndC g C cond) (hE : SndE g C elt) : SndE g C (.comp elt t it cond own m) := by
  intro Γ k X e st sx S0 H0 S H σ δ ex P hc hh ft hw
  cases e <;> try (simp [chkE] at hc; done)
  rename_i e gens scope pos
  rcases gens with _ | ⟨⟨tg, iter, ifs, n⟩, _ | _⟩ <;> try (simp [chkE] at hc; done)
  obtain ⟨rfl, cc⟩ := compC_of hc
  exact RunE.of (pe_lc hh.cx.ok.calm hh.cx.ok.nd pi_run (blkOk_by (by rw [hh.cx.N, hh.cx.sc]; exact cc.c6)) (gb_ok hh.cx cc.c4) tb_ok eb_ok (foldSet cc.c7)) (comp_lc hI hC hE cc hh ft hw)

/-! ### all expressions -/
variable (g C) in
def Sub : E → Prop
  | .cons a es => SndE g C a ∧ SndT g C a ∧ SndEs g C es ∧ Sub es
  | _ => True
def tKw (X : Cx) : List Keyword → TA
  | [] => tNil
  | ⟨_, e, _⟩ :: r => tCons (RunE X e) (tKw X r)
theorem pk_all {X : Cx} : ∀ {kws : List Keyword}, PK X kws (tKw X kws)
  | [] => pk_nil
  | ⟨_, e, _⟩ :: r => pk_cons pe_run pk_all
theorem tKw_mono {X : Cx} : ∀ {kws : List Keyword} {σ : L2.St} {H : Hp} {Q Q' : List V → Hp → Prop}, tKw X kws σ H Q → (∀ vs H, Q vs H → Q' vs H) → tKw X kws σ H Q'
  | [], σ, H, Q, Q', h, f => f _ _ h
  | ⟨_, e, _⟩ :: r, σ, H, Q, Q', h, f => RunE.mono h fun v H1 h1 => tKw_mono h1 fun vs H2 h2 => f _ _ h2
theorem tKw_len {X : Cx} : ∀ {kws : List Keyword} {σ : L2.St} {H : Hp} {Q : List V → Hp → Prop}, tKw X kws σ H Q → tKw X kws σ H (fun vs H => vs.length = kws.length ∧ Q vs H)
  | [], σ, H, Q, h => ⟨rfl, h⟩
  | ⟨_, e, _⟩ :: r, σ, H, Q, h => RunE.mono h fun v H1 h1 => tKw_mono (tKw_len h1) fun vs H2 h2 => ⟨by simp [h2.1], h2.2⟩
theorem RepRs.perm {st : Option StA} {H0 S HS H : Hp} {rs : List R} {vs : List V} (h : RepRs g st H0 S HS H rs vs) : ∀ pm : List Nat, RepRs g st H0 S HS H (permL pm rs) (permL pm vs)
  | [] => .nil
  | i :: pm => by
    have ih := RepRs.perm h pm
    have get : ∀ {rs : List R} {vs : List V}, RepRs g st H0 S HS H rs vs → ∀ i : Nat, (∃ (r : R) (v : V), rs[i]? = some r ∧ vs[i]? = some v ∧ RepR g st H0 S HS H r v) ∨ (rs[i]? = none ∧ vs[i]? = none) := by
      intro rs vs h
      induction h with
      | nil => intro i; exact .inr ⟨by simp, by simp⟩
      | cons a b ih =>
        intro i
        cases i with
        | zero => exact .inl ⟨_, _, rfl, rfl, a⟩
        | succ i => simpa using ih i
    unfold permL at ih ⊢
    rcases get h i with ⟨r, v, e1, e2, q⟩ | ⟨e1, e2⟩
    · rw [List.filterMap_cons_some e1, List.filterMap_cons_some e2]
      exact .cons q ih
    · rw [List.filterMap_cons_none e1, List.filterMap_cons_none e2]
      exact ih
theorem kw_names {pos : Pos} {env : PySem.Env} : ∀ {kws : List Keyword} {ks : List Str}, kws.map (·.arg) = ks.map some → (backToKw pos (keywordEach kws env)).all (·.1.isSome) = true ∧ (backToKw pos (keywordEach kws env)).filterMap (·.1) = ks ∧ (backToKw pos (keywordEach kws env)).any (·.1.isNone) = false
  | [], [], _ => ⟨rfl, rfl, rfl⟩
  | [], _ :: _, h => by cases h
  | _ :: _, [], h => by cases h
  | ⟨nm, e, kp⟩ :: kws, k :: ks, h => by
    simp only [List.map_cons, List.cons.injEq] at h
    obtain ⟨rfl, h⟩ := h
    obtain ⟨h1, h2, h3⟩ := kw_names (pos := pos) (env := env) h
    refine ⟨?_, ?_, ?_⟩
    · show ((some k).isSome && (backToKw pos (keywordEach kws env)).all (·.1.isSome)) = true
      rw [h1]; rfl
    · show (some k).toList ++ (backToKw pos (keywordEach kws env)).filterMap (·.1) = k :: ks
      rw [h2]; rfl
    · show ((some k).isNone || (backToKw pos (keywordEach kws env)).any (·.1.isNone)) = false
      rw [h3]; rfl
theorem tKw_ok {es : E} (hs : Sub g C es) : ∀ {kws : List Keyword} {Γ : Sc} {k : Nat} {X : Cx} {st sx : Option StA} {S0 H0 S H : Hp} {σ : L2.St} {δ : List Sl} {ex : XD → Prop} {P : List R → Prop}, chkEs C.free Γ es (kws.map (·.value)) = true → Hyp g C Γ k X st sx S0 H0 S H σ δ ex → Fit st sx (costE C es) → wEs C es δ P ex →
    tKw X kws σ H (PostA g (up st (costE C es)) H0 S H P) := by
  induction es with
  | nil =>
    intro kws Γ k X st sx S0 H0 S H σ δ ex P hc hh ft hw
    cases kws with
    | nil =>
      simp only [wEs] at hw
      exact ⟨S, [], (Step.refl hh.o).up, .nil, hw⟩
    | cons kw kws => cases hc
  | cons a es _ ih =>
    intro kws Γ k X st sx S0 H0 S H σ δ ex P hc hh ft hw
    cases kws with
    | nil => cases hc
    | cons kw kws =>
      obtain ⟨nm, e, kp⟩ := kw
      have hc : (nonStar e && chkE C.free Γ a e && chkEs C.free Γ es (kws.map (·.value))) = true := hc
      obtain ⟨h1, h2⟩ := ba hc
      obtain ⟨h1, h3⟩ := ba h1
      simp only [wEs] at hw
      refine RunE.mono (hs.1 h3 hh ft.l hw) fun v1 H1 ⟨S1, ra, s1, r1, w1⟩ => ?_
      refine tKw_mono (ih hs.2.2.2 h2 (hh.next s1) ft.r w1) fun vs H2 ⟨S2, rs, s2, r2, w2⟩ => ?_
      exact ⟨S2, _, (s1.tr s2).c2, by rw [show costE C (.cons a _) = costE C a + _ from rfl, ← up_up]; exact .cons (r1.stp s1.ok s2) (r2.since fun l e => Step.back hh.o.up s1 e), w2⟩
  | _ =>
    intro kws Γ k X st sx S0 H0 S H σ δ ex P hc hh ft hw
    cases hc
theorem sndE_mkK {c : Str} {ks : List Str} {es : E} (ha : Sub g C es) : SndE g C (.mkK c ks es) := by
  intro Γ k X e st sx S0 H0 S H σ δ ex P hc hh ft hw
  cases e <;> try (simp [chkE] at hc; done)
  rename_i fn xs kws p
  cases fn <;> try (simp [chkE] at hc; done)
  cases xs <;> try (simp [chkE] at hc; done)
  simp only [chkE] at hc
  obtain ⟨a1, c1⟩ := ba hc
  obtain ⟨a2, c2⟩ := ba a1
  obtain ⟨a3, c3⟩ := ba a2
  obtain ⟨c5, c4⟩ := ba a3
  have c2 := of_decide_eq_true c2
  have e3 := (eq_of_beq c3).symm
  subst e3
  simp only [wE] at hw
  split at hw
  · rename_i pm fs q
    obtain ⟨a, fd, ps, gg, gV, e1, e2, F, hb, hg⟩ := hh.ct.inK _ _ _ _ q
    have F : FnOk X.prog X.w X.K X.mg X.base (L2.CX X.prog X.w) k a fd ps (spIni g c fs (C.ck c ks)) := by rw [hh.cx.ok.prog, hh.cx.ok.w, hh.cx.ok.K, hh.cx.ok.mg, hh.cx.ok.base]; exact F
    have e2 : Mk X.K (g.cl c) a := by rw [hh.cx.ok.K]; exact e2
    have hb : KBn X.K fd ps 1 ks gg gV := by rw [hh.cx.ok.K]; exact hb
    obtain ⟨n1, n2, n3⟩ := kw_names (pos := p) (env := X.env) c2
    refine RunE.of (pe_makeK0 e2 F hh.cx.ok.room (glB_ok hh.cx c5) (by rw [hh.cx.ok.mg]; exact e1) hb hh.pass pk_all n1 n2 (noDbg_ok c4) (by rw [n3]; rfl)) ?_
    refine tKw_mono (tKw_len (tKw_ok ha c1 hh ft.l hw)) fun vs H1 ⟨hl, S1, rs, s1, r1, w1⟩ => ?_
    refine ⟨rfl, by rw [hl]; simpa using congrArg List.length c2, fun x dx h1 h2 h3 => ?_⟩
    rw [hg]
    exact make_sp (f := fs) (P := P) hh.o hh.fr s1 (r1.perm pm) ft hh.lm w1 x dx h1 h2 h3
  · exact hw.elim
theorem noE {ir : E} (h : ∀ {Γ : Sc} {e : Expr}, chkE C.free Γ ir e = true → False) : SndE g C ir := fun {Γ k X e st sx S0 H0 S H σ δ ex P} hc _ _ _ => (h hc).elim
theorem noT {ir : E} (h : ∀ {Γ : Sc} {e : Expr}, chkT C.free Γ ir e = true → False) : SndT g C ir := fun {Γ k X e st sx S0 H0 S H σ δ ex P} hc _ _ _ => (h hc).elim
theorem noEs {ir : E} (h : ∀ {Γ : Sc} {e : List Expr}, chkEs C.free Γ ir e = true → False) : SndEs g C ir := fun {Γ k X e st sx S0 H0 S H σ δ ex P} hc _ _ _ => (h hc).elim
theorem noC {ir : E} (h : ∀ {Γ : Sc} {e : List Expr}, chkC C.free Γ ir e = true → False) : SndC g C ir := fun {Γ k X e st sx S0 H0 S H σ δ ex P} hc _ _ _ => (h hc).elim
theorem noO {ir : E} (h : ∀ {Γ : Sc} {e : Option Expr}, chkO C.free Γ ir e = true → False) : SndO g C ir := fun {Γ k X e st sx S0 H0 S H σ δ ex P} hc _ _ _ => (h hc).elim
theorem noI {ir : E} (h : ∀ {Γ : Sc} {t e : Expr}, chkIt C.free Γ ir t e = true → False) : SndI g C ir := fun {Γ k X tg e st sx S0 H0 S H σ δ ex P} hc _ _ _ => (h hc).elim
theorem sndC_of {a es : E} (ha : SndT g C a) : SndC g C (.cons a es) := by
  cases es with
  | nil => exact sndC_cons ha
  | _ => intro Γ k X e st sx S0 H0 S H σ δ ex P hc hh ft hw; simp [wC] at hw
theorem sndO_of {a es : E} (ha : SndE g C a) : SndO g C (.cons a es) := by
  cases es with
  | nil => exact sndO_cons ha
  | _ => intro Γ k X e st sx S0 H0 S H σ δ ex P hc hh ft hw; simp [wO] at hw
theorem sndI_of {es : E} (h : Sub g C es) : SndI g C (.itRng es) := by
  intro Γ k X tg e st sx S0 H0 S H σ δ ex P hc hh ft hw
  have hc' := hc
  cases e <;> try (simp [chkIt] at hc; done)
  rename_i fn xs kws p
  cases fn <;> try (simp [chkIt] at hc; done)
  cases kws <;> try (simp [chkIt] at hc; done)
  simp only [chkIt] at hc
  obtain ⟨hc, h2⟩ := ba hc
  obtain ⟨hc, h3⟩ := ba hc
  rcases xs with _ | ⟨e, _ | ⟨f, _ | _⟩⟩ <;> try (simp at h3; done)
  · cases es <;> try (simp [chkEs] at h2; done)
    rename_i a es
    cases es <;> try (simp [chkEs] at h2; done)
    exact sndI_rng1 h.1 hc' hh ft hw
  · cases es <;> try (simp [chkEs] at h2; done)
    rename_i a es
    cases es <;> try (simp [chkEs] at h2; done)
    rename_i b es
    cases es <;> try (simp [chkEs] at h2; done)
    exact sndI_rng2 h.1 h.2.2.2.1 hc' hh ft hw
theorem sndE_bi' {b : String} {es : E} (h : Sub g C es) : SndE g C (.bi b es) := by
  cases es with
  | cons a es => exact sndE_bi h.1 h.2.2.1
  | _ => exact noE fun {Γ e} hc => by cases e <;> simp [chkE] at hc
theorem sndE_ty' {b : String} {es : E} (h : Sub g C es) : SndE g C (.ty b es) := by
  cases es with
  | cons a es => exact sndE_ty h.1 h.2.2.1
  | _ => exact noE fun {Γ e} hc => by cases e <;> simp [chkE] at hc
theorem snd_all (ir : E) : Snd g C ir ∧ Sub g C ir := by
  induction ir with
  | var i =>
    exact ⟨{ e := sndE_var
             es := by exact noEs fun {Γ e} hc => by cases e <;> simp [chkEs] at hc
             t := by exact noT fun {Γ e} hc => by cases e <;> simp [chkT] at hc
             c := by exact noC fun {Γ e} hc => by cases e <;> simp [chkC] at hc
             o := by exact noO fun {Γ e} hc => by cases e <;> simp [chkO] at hc
             i := by exact noI fun {Γ t e} hc => by cases e <;> simp [chkIt] at hc }, trivial⟩
  | sgc i =>
    exact ⟨{ e := sndE_sgc
             es := by exact noEs fun {Γ e} hc => by cases e <;> simp [chkEs] at hc
             t := by exact noT fun {Γ e} hc => by cases e <;> simp [chkT] at hc
             c := by exact noC fun {Γ e} hc => by cases e <;> simp [chkC] at hc
             o := by exact noO fun {Γ e} hc => by cases e <;> simp [chkO] at hc
             i := by exact noI fun {Γ t e} hc => by cases e <;> simp [chkIt] at hc }, trivial⟩
  | cst c =>
    exact ⟨{ e := sndE_cst
             es := by exact noEs fun {Γ e} hc => by cases e <;> simp [chkEs] at hc
             t := by exact noT fun {Γ e} hc => by cases e <;> simp [chkT] at hc
             c := by exact noC fun {Γ e} hc => by cases e <;> simp [chkC] at hc
             o := by exact noO fun {Γ e} hc => by cases e <;> simp [chkO] at hc
             i := by exact noI fun {Γ t e} hc => by cases e <;> simp [chkIt] at hc }, trivial⟩
  | glc x =>
    exact ⟨{ e := sndE_glc
             es := by exact noEs fun {Γ e} hc => by cases e <;> simp [chkEs] at hc
             t := by exact noT fun {Γ e} hc => by cases e <;> simp [chkT] at hc
             c := by exact noC fun {Γ e} hc => by cases e <;> simp [chkC] at hc
             o := by exact noO fun {Γ e} hc => by cases e <;> simp [chkO] at hc
             i := by exact noI fun {Γ t e} hc => by cases e <;> simp [chkIt] at hc }, trivial⟩
  | bin o a b ih_a ih_b =>
    exact ⟨{ e := sndE_bin ih_a.1.e ih_b.1.e
             es := by exact noEs fun {Γ e} hc => by cases e <;> simp [chkEs] at hc
             t := by exact noT fun {Γ e} hc => by cases e <;> simp [chkT] at hc
             c := by exact noC fun {Γ e} hc => by cases e <;> simp [chkC] at hc
             o := by exact noO fun {Γ e} hc => by cases e <;> simp [chkO] at hc
             i := by exact noI fun {Γ t e} hc => by cases e <;> simp [chkIt] at hc }, trivial⟩
  | neg a ih_a =>
    exact ⟨{ e := sndE_neg ih_a.1.e
             es := by exact noEs fun {Γ e} hc => by cases e <;> simp [chkEs] at hc
             t := by exact noT fun {Γ e} hc => by cases e <;> simp [chkT] at hc
             c := by exact noC fun {Γ e} hc => by cases e <;> simp [chkC] at hc
             o := by exact noO fun {Γ e} hc => by cases e <;> simp [chkO] at hc
             i := by exact noI fun {Γ t e} hc => by cases e <;> simp [chkIt] at hc }, trivial⟩
  | cmp o a b ih_a ih_b =>
    exact ⟨{ e := sndE_cmp ih_a.1.e ih_b.1.e
             es := by exact noEs fun {Γ e} hc => by cases e <;> simp [chkEs] at hc
             t := sndT_cmp ih_a.1.e ih_b.1.e
             c := by exact noC fun {Γ e} hc => by cases e <;> simp [chkC] at hc
             o := by exact noO fun {Γ e} hc => by cases e <;> simp [chkO] at hc
             i := by exact noI fun {Γ t e} hc => by cases e <;> simp [chkIt] at hc }, trivial⟩
  | chn o p a b c ih_a ih_b ih_c =>
    exact ⟨{ e := sndE_chn ih_a.1.e ih_b.1.e ih_c.1.e
             es := by exact noEs fun {Γ e} hc => by cases e <;> simp [chkEs] at hc
             t := sndT_chn ih_a.1.e ih_b.1.e ih_c.1.e
             c := by exact noC fun {Γ e} hc => by cases e <;> simp [chkC] at hc
             o := by exact noO fun {Γ e} hc => by cases e <;> simp [chkO] at hc
             i := by exact noI fun {Γ t e} hc => by cases e <;> simp [chkIt] at hc }, trivial⟩
  | and_ a b ih_a ih_b =>
    exact ⟨{ e := sndE_and ih_a.1.e ih_b.1.e
             es := by exact noEs fun {Γ e} hc => by cases e <;> simp [chkEs] at hc
             t := sndT_and ih_a.1.t ih_b.1.t
             c := by exact noC fun {Γ e} hc => by cases e <;> simp [chkC] at hc
             o := by exact noO fun {Γ e} hc => by cases e <;> simp [chkO] at hc
             i := by exact noI fun {Γ t e} hc => by cases e <;> simp [chkIt] at hc }, trivial⟩
  | or_ a b ih_a ih_b =>
    exact ⟨{ e := sndE_or ih_a.1.e ih_b.1.e
             es := by exact noEs fun {Γ e} hc => by cases e <;> simp [chkEs] at hc
             t := sndT_or ih_a.1.t ih_b.1.t
             c := by exact noC fun {Γ e} hc => by cases e <;> simp [chkC] at hc
             o := by exact noO fun {Γ e} hc => by cases e <;> simp [chkO] at hc
             i := by exact noI fun {Γ t e} hc => by cases e <;> simp [chkIt] at hc }, trivial⟩
  | not_ a ih_a =>
    exact ⟨{ e := sndE_not ih_a.1.e
             es := by exact noEs fun {Γ e} hc => by cases e <;> simp [chkEs] at hc
             t := sndT_not ih_a.1.t
             c := by exact noC fun {Γ e} hc => by cases e <;> simp [chkC] at hc
             o := by exact noO fun {Γ e} hc => by cases e <;> simp [chkO] at hc
             i := by exact noI fun {Γ t e} hc => by cases e <;> simp [chkIt] at hc }, trivial⟩
  | ite c a b ih_c ih_a ih_b =>
    exact ⟨{ e := sndE_ite ih_c.1.t ih_a.1.e ih_b.1.e
             es := by exact noEs fun {Γ e} hc => by cases e <;> simp [chkEs] at hc
             t := by exact noT fun {Γ e} hc => by cases e <;> simp [chkT] at hc
             c := by exact noC fun {Γ e} hc => by cases e <;> simp [chkC] at hc
             o := by exact noO fun {Γ e} hc => by cases e <;> simp [chkO] at hc
             i := by exact noI fun {Γ t e} hc => by cases e <;> simp [chkIt] at hc }, trivial⟩
  | nil  =>
    exact ⟨{ e := by exact noE fun {Γ e} hc => by cases e <;> simp [chkE] at hc
             es := sndEs_nil
             t := by exact noT fun {Γ e} hc => by cases e <;> simp [chkT] at hc
             c := sndC_nil
             o := sndO_nil
             i := by exact noI fun {Γ t e} hc => by cases e <;> simp [chkIt] at hc }, trivial⟩
  | cons a es ih_a ih_es =>
    exact ⟨{ e := by exact noE fun {Γ e} hc => by cases e <;> simp [chkE] at hc
             es := sndEs_cons ih_a.1.e ih_es.1.es
             t := by exact noT fun {Γ e} hc => by cases e <;> simp [chkT] at hc
             c := sndC_of ih_a.1.t
             o := sndO_of ih_a.1.e
             i := by exact noI fun {Γ t e} hc => by cases e <;> simp [chkIt] at hc }, ⟨ih_a.1.e, ih_a.1.t, ih_es.1.es, ih_es.2⟩⟩
  | tup es ih_es =>
    exact ⟨{ e := sndE_tup ih_es.1.es
             es := by exact noEs fun {Γ e} hc => by cases e <;> simp [chkEs] at hc
             t := by exact noT fun {Γ e} hc => by cases e <;> simp [chkT] at hc
             c := by exact noC fun {Γ e} hc => by cases e <;> simp [chkC] at hc
             o := by exact noO fun {Γ e} hc => by cases e <;> simp [chkO] at hc
             i := by exact noI fun {Γ t e} hc => by cases e <;> simp [chkIt] at hc }, trivial⟩
  | lst es ih_es =>
    exact ⟨{ e := sndE_lst ih_es.1.es
             es := by exact noEs fun {Γ e} hc => by cases e <;> simp [chkEs] at hc
             t := by exact noT fun {Γ e} hc => by cases e <;> simp [chkT] at hc
             c := by exact noC fun {Γ e} hc => by cases e <;> simp [chkC] at hc
             o := by exact noO fun {Γ e} hc => by cases e <;> simp [chkO] at hc
             i := by exact noI fun {Γ t e} hc => by cases e <;> simp [chkIt] at hc }, trivial⟩
  | idx a b ih_a ih_b =>
    exact ⟨{ e := sndE_idx ih_a.1.e ih_b.1.e
             es := by exact noEs fun {Γ e} hc => by cases e <;> simp [chkEs] at hc
             t := by exact noT fun {Γ e} hc => by cases e <;> simp [chkT] at hc
             c := by exact noC fun {Γ e} hc => by cases e <;> simp [chkC] at hc
             o := by exact noO fun {Γ e} hc => by cases e <;> simp [chkO] at hc
             i := by exact noI fun {Γ t e} hc => by cases e <;> simp [chkIt] at hc }, trivial⟩
  | slc a lo hi ih_a ih_lo ih_hi =>
    exact ⟨{ e := sndE_slc ih_a.1.e ih_lo.1.o ih_hi.1.o
             es := by exact noEs fun {Γ e} hc => by cases e <;> simp [chkEs] at hc
             t := by exact noT fun {Γ e} hc => by cases e <;> simp [chkT] at hc
             c := by exact noC fun {Γ e} hc => by cases e <;> simp [chkC] at hc
             o := by exact noO fun {Γ e} hc => by cases e <;> simp [chkO] at hc
             i := by exact noI fun {Γ t e} hc => by cases e <;> simp [chkIt] at hc }, trivial⟩
  | call f es ih_es =>
    exact ⟨{ e := sndE_call ih_es.1.es
             es := by exact noEs fun {Γ e} hc => by cases e <;> simp [chkEs] at hc
             t := by exact noT fun {Γ e} hc => by cases e <;> simp [chkT] at hc
             c := by exact noC fun {Γ e} hc => by cases e <;> simp [chkC] at hc
             o := by exact noO fun {Γ e} hc => by cases e <;> simp [chkO] at hc
             i := by exact noI fun {Γ t e} hc => by cases e <;> simp [chkIt] at hc }, trivial⟩
  | callG f es ih_es =>
    exact ⟨{ e := sndE_callG ih_es.1.es
             es := by exact noEs fun {Γ e} hc => by cases e <;> simp [chkEs] at hc
             t := by exact noT fun {Γ e} hc => by cases e <;> simp [chkT] at hc
             c := by exact noC fun {Γ e} hc => by cases e <;> simp [chkC] at hc
             o := by exact noO fun {Γ e} hc => by cases e <;> simp [chkO] at hc
             i := by exact noI fun {Γ t e} hc => by cases e <;> simp [chkIt] at hc }, trivial⟩
  | mkV c v es ih_es =>
    exact ⟨{ e := sndE_mkV ih_es.1.es
             es := by exact noEs fun {Γ e} hc => by cases e <;> simp [chkEs] at hc
             t := by exact noT fun {Γ e} hc => by cases e <;> simp [chkT] at hc
             c := by exact noC fun {Γ e} hc => by cases e <;> simp [chkC] at hc
             o := by exact noO fun {Γ e} hc => by cases e <;> simp [chkO] at hc
             i := by exact noI fun {Γ t e} hc => by cases e <;> simp [chkIt] at hc }, trivial⟩
  | mkK c ks es ih_es =>
    exact ⟨{ e := sndE_mkK ih_es.2
             es := by exact noEs fun {Γ e} hc => by cases e <;> simp [chkEs] at hc
             t := by exact noT fun {Γ e} hc => by cases e <;> simp [chkT] at hc
             c := by exact noC fun {Γ e} hc => by cases e <;> simp [chkC] at hc
             o := by exact noO fun {Γ e} hc => by cases e <;> simp [chkO] at hc
             i := by exact noI fun {Γ t e} hc => by cases e <;> simp [chkIt] at hc }, trivial⟩
  | mk c es ih_es =>
    exact ⟨{ e := sndE_mk ih_es.1.es
             es := by exact noEs fun {Γ e} hc => by cases e <;> simp [chkEs] at hc
             t := by exact noT fun {Γ e} hc => by cases e <;> simp [chkT] at hc
             c := by exact noC fun {Γ e} hc => by cases e <;> simp [chkC] at hc
             o := by exact noO fun {Γ e} hc => by cases e <;> simp [chkO] at hc
             i := by exact noI fun {Γ t e} hc => by cases e <;> simp [chkIt] at hc }, trivial⟩
  | op1 o a ih_a =>
    exact ⟨{ e := sndE_op1 ih_a.1.e
             es := by exact noEs fun {Γ e} hc => by cases e <;> simp [chkEs] at hc
             t := by exact noT fun {Γ e} hc => by cases e <;> simp [chkT] at hc
             c := by exact noC fun {Γ e} hc => by cases e <;> simp [chkC] at hc
             o := by exact noO fun {Γ e} hc => by cases e <;> simp [chkO] at hc
             i := by exact noI fun {Γ t e} hc => by cases e <;> simp [chkIt] at hc }, trivial⟩
  | op2 o a b ih_a ih_b =>
    exact ⟨{ e := sndE_op2 ih_a.1.e ih_b.1.e
             es := by exact noEs fun {Γ e} hc => by cases e <;> simp [chkEs] at hc
             t := sndT_op2 ih_a.1.e ih_b.1.e
             c := by exact noC fun {Γ e} hc => by cases e <;> simp [chkC] at hc
             o := by exact noO fun {Γ e} hc => by cases e <;> simp [chkO] at hc
             i := by exact noI fun {Γ t e} hc => by cases e <;> simp [chkIt] at hc }, trivial⟩
  | opn o es ih_es =>
    exact ⟨{ e := sndE_opn ih_es.1.es
             es := by exact noEs fun {Γ e} hc => by cases e <;> simp [chkEs] at hc
             t := by exact noT fun {Γ e} hc => by cases e <;> simp [chkT] at hc
             c := by exact noC fun {Γ e} hc => by cases e <;> simp [chkC] at hc
             o := by exact noO fun {Γ e} hc => by cases e <;> simp [chkO] at hc
             i := by exact noI fun {Γ t e} hc => by cases e <;> simp [chkIt] at hc }, trivial⟩
  | meth c m o es ih_o ih_es =>
    exact ⟨{ e := sndE_meth ih_o.1.e ih_es.1.es
             es := by exact noEs fun {Γ e} hc => by cases e <;> simp [chkEs] at hc
             t := by exact noT fun {Γ e} hc => by cases e <;> simp [chkT] at hc
             c := by exact noC fun {Γ e} hc => by cases e <;> simp [chkC] at hc
             o := by exact noO fun {Γ e} hc => by cases e <;> simp [chkO] at hc
             i := by exact noI fun {Γ t e} hc => by cases e <;> simp [chkIt] at hc }, trivial⟩
  | attr o f ih_o =>
    exact ⟨{ e := sndE_attr ih_o.1.e
             es := by exact noEs fun {Γ e} hc => by cases e <;> simp [chkEs] at hc
             t := by exact noT fun {Γ e} hc => by cases e <;> simp [chkT] at hc
             c := by exact noC fun {Γ e} hc => by cases e <;> simp [chkC] at hc
             o := by exact noO fun {Γ e} hc => by cases e <;> simp [chkO] at hc
             i := by exact noI fun {Γ t e} hc => by cases e <;> simp [chkIt] at hc }, trivial⟩
  | prp c f o ih_o =>
    exact ⟨{ e := sndE_prp ih_o.1.e
             es := by exact noEs fun {Γ e} hc => by cases e <;> simp [chkEs] at hc
             t := by exact noT fun {Γ e} hc => by cases e <;> simp [chkT] at hc
             c := by exact noC fun {Γ e} hc => by cases e <;> simp [chkC] at hc
             o := by exact noO fun {Γ e} hc => by cases e <;> simp [chkO] at hc
             i := by exact noI fun {Γ t e} hc => by cases e <;> simp [chkIt] at hc }, trivial⟩
  | bi b es ih_es =>
    exact ⟨{ e := sndE_bi' ih_es.2
             es := by exact noEs fun {Γ e} hc => by cases e <;> simp [chkEs] at hc
             t := by exact noT fun {Γ e} hc => by cases e <;> simp [chkT] at hc
             c := by exact noC fun {Γ e} hc => by cases e <;> simp [chkC] at hc
             o := by exact noO fun {Γ e} hc => by cases e <;> simp [chkO] at hc
             i := by exact noI fun {Γ t e} hc => by cases e <;> simp [chkIt] at hc }, trivial⟩
  | ty b es ih_es =>
    exact ⟨{ e := sndE_ty' ih_es.2
             es := by exact noEs fun {Γ e} hc => by cases e <;> simp [chkEs] at hc
             t := by exact noT fun {Γ e} hc => by cases e <;> simp [chkT] at hc
             c := by exact noC fun {Γ e} hc => by cases e <;> simp [chkC] at hc
             o := by exact noO fun {Γ e} hc => by cases e <;> simp [chkO] at hc
             i := by exact noI fun {Γ t e} hc => by cases e <;> simp [chkIt] at hc }, trivial⟩
  | isi a ts ih_a =>
    exact ⟨{ e := sndE_isi ih_a.1.e
             es := by exact noEs fun {Γ e} hc => by cases e <;> simp [chkEs] at hc
             t := by exact noT fun {Γ e} hc => by cases e <;> simp [chkT] at hc
             c := by exact noC fun {Γ e} hc => by cases e <;> simp [chkC] at hc
             o := by exact noO fun {Γ e} hc => by cases e <;> simp [chkO] at hc
             i := by exact noI fun {Γ t e} hc => by cases e <;> simp [chkIt] at hc }, trivial⟩
  | rpr a ih_a =>
    exact ⟨{ e := sndE_rpr ih_a.1.e
             es := by exact noEs fun {Γ e} hc => by cases e <;> simp [chkEs] at hc
             t := by exact noT fun {Γ e} hc => by cases e <;> simp [chkT] at hc
             c := by exact noC fun {Γ e} hc => by cases e <;> simp [chkC] at hc
             o := by exact noO fun {Γ e} hc => by cases e <;> simp [chkO] at hc
             i := by exact noI fun {Γ t e} hc => by cases e <;> simp [chkIt] at hc }, trivial⟩
  | comp elt t it cond own m ih_elt ih_it ih_cond =>
    exact ⟨{ e := sndE_comp ih_it.1.i ih_cond.1.c ih_elt.1.e
             es := by exact noEs fun {Γ e} hc => by cases e <;> simp [chkEs] at hc
             t := by exact noT fun {Γ e} hc => by cases e <;> simp [chkT] at hc
             c := by exact noC fun {Γ e} hc => by cases e <;> simp [chkC] at hc
             o := by exact noO fun {Γ e} hc => by cases e <;> simp [chkO] at hc
             i := by exact noI fun {Γ t e} hc => by cases e <;> simp [chkIt] at hc }, trivial⟩
  | tr a ih_a =>
    exact ⟨{ e := by exact noE fun {Γ e} hc => by cases e <;> simp [chkE] at hc
             es := by exact noEs fun {Γ e} hc => by cases e <;> simp [chkEs] at hc
             t := sndT_tr ih_a.1.e
             c := by exact noC fun {Γ e} hc => by cases e <;> simp [chkC] at hc
             o := by exact noO fun {Γ e} hc => by cases e <;> simp [chkO] at hc
             i := by exact noI fun {Γ t e} hc => by cases e <;> simp [chkIt] at hc }, trivial⟩
  | itV a ih_a =>
    exact ⟨{ e := by exact noE fun {Γ e} hc => by cases e <;> simp [chkE] at hc
             es := by exact noEs fun {Γ e} hc => by cases e <;> simp [chkEs] at hc
             t := by exact noT fun {Γ e} hc => by cases e <;> simp [chkT] at hc
             c := by exact noC fun {Γ e} hc => by cases e <;> simp [chkC] at hc
             o := by exact noO fun {Γ e} hc => by cases e <;> simp [chkO] at hc
             i := sndI_itV ih_a.1.e }, trivial⟩
  | itRng es ih_es =>
    exact ⟨{ e := by exact noE fun {Γ e} hc => by cases e <;> simp [chkE] at hc
             es := by exact noEs fun {Γ e} hc => by cases e <;> simp [chkEs] at hc
             t := by exact noT fun {Γ e} hc => by cases e <;> simp [chkT] at hc
             c := by exact noC fun {Γ e} hc => by cases e <;> simp [chkC] at hc
             o := by exact noO fun {Γ e} hc => by cases e <;> simp [chkO] at hc
             i := sndI_of ih_es.2 }, trivial⟩
  | itEnum a ih_a =>
    exact ⟨{ e := by exact noE fun {Γ e} hc => by cases e <;> simp [chkE] at hc
             es := by exact noEs fun {Γ e} hc => by cases e <;> simp [chkEs] at hc
             t := by exact noT fun {Γ e} hc => by cases e <;> simp [chkT] at hc
             c := by exact noC fun {Γ e} hc => by cases e <;> simp [chkC] at hc
             o := by exact noO fun {Γ e} hc => by cases e <;> simp [chkO] at hc
             i := sndI_enum ih_a.1.e }, trivial⟩
  | itZip a b ih_a ih_b =>
    exact ⟨{ e := by exact noE fun {Γ e} hc => by cases e <;> simp [chkE] at hc
             es := by exact noEs fun {Γ e} hc => by cases e <;> simp [chkEs] at hc
             t := by exact noT fun {Γ e} hc => by cases e <;> simp [chkT] at hc
             c := by exact noC fun {Γ e} hc => by cases e <;> simp [chkC] at hc
             o := by exact noO fun {Γ e} hc => by cases e <;> simp [chkO] at hc
             i := sndI_zip ih_a.1.e ih_b.1.e }, trivial⟩
  | itZipN a b ih_a ih_b =>
    exact ⟨{ e := by exact noE fun {Γ e} hc => by cases e <;> simp [chkE] at hc
             es := by exact noEs fun {Γ e} hc => by cases e <;> simp [chkEs] at hc
             t := by exact noT fun {Γ e} hc => by cases e <;> simp [chkT] at hc
             c := by exact noC fun {Γ e} hc => by cases e <;> simp [chkC] at hc
             o := by exact noO fun {Γ e} hc => by cases e <;> simp [chkO] at hc
             i := sndI_zipN ih_a.1.e ih_b.1.e }, trivial⟩
  | itRev a ih_a =>
    exact ⟨{ e := by exact noE fun {Γ e} hc => by cases e <;> simp [chkE] at hc
             es := by exact noEs fun {Γ e} hc => by cases e <;> simp [chkEs] at hc
             t := by exact noT fun {Γ e} hc => by cases e <;> simp [chkT] at hc
             c := by exact noC fun {Γ e} hc => by cases e <;> simp [chkC] at hc
             o := by exact noO fun {Γ e} hc => by cases e <;> simp [chkO] at hc
             i := sndI_rev ih_a.1.e }, trivial⟩
end
end Dl

set_option Elab.async false
set_option linter.all false
set_option maxRecDepth 100000
set_option maxHeartbeats 4000000
/-! Dl: statements. -/
namespace Dl
open PySem PySem.Spec PyProof.Rows L2

inductive St where
  | skip | seq (a b : St)
  | asg (t : Tg) (e : E) | par (i j : Nat) (a b : E) | par3 (i j l : Nat) (a b c : E) | asgO (i : Nat) (f : Str) (e : E)
  | app (i : Nat) (e : E) | drop (e : E) | frz (i : Nat)
  | ret (e : E) | retV (i : Nat) | retN | ifs (c : E) (a b : St) | for_ (t : Tg) (it : E) (m : Nat) (b : St) | whl (m : Nat) (c : E) (b : St)
  /-- i.append(j.pop(e)); i.clear() -/
  | popApp (i j : Nat) (e : E) | clr (i : Nat)
  | brk | cont | never | nop

/-- a result becomes a name's -/
def wNm (i : Nat) (r : R) (δ : List Sl) (k : List Sl → Prop) : Prop := match r with
  | .val d => k (δ.set i (.val d))
  | .fresh xs => k (δ.set i (.own xs))
  | .freshD kvs => k (δ.set i (.ownD kvs))
  | .stt => k (δ.set i .stt)
  | _ => False
def wAsg (t : Tg) (r : R) (δ : List Sl) (k : List Sl → Prop) : Prop := match t, r with
  | .nm i, r => wNm i r δ k
  | t, .val d => wTg t d δ k
  | _, _ => False
def frzD (i : Nat) (δ : List Sl) : List Sl := match δ[i]? with
  | some (.own xs) => δ.set i (.val (.lst xs))
  | some (.ownD kvs) => δ.set i (.val (.dct kvs))
  | some (.ownO _ _ c fs) => δ.set i (.val (.obj c fs))
  | _ => δ
section
variable (C : Ct)
def costS : St → Nat
  | .seq a b => costS a + costS b
  | .asg _ e | .asgO _ _ e | .app _ e | .drop e | .ret e => costE C e
  | .par _ _ a b => costE C a + costE C b
  | .par3 _ _ _ a b c => costE C a + costE C b + costE C c
  | .ifs c a b => costE C c + costS a + costS b
  | .for_ _ it m b => costE C it + m * costS b
  | .whl m c b => (m + 1) * (costE C c + costS b)
  | .popApp _ _ e => costE C e
  | .clr _ | .skip | .frz _ | .retV _ | .retN | .brk | .cont | .never | .nop => 0
def wS : St → List Sl → WD → (XD → Prop) → Prop
  | .skip, δ, W, _ => W.nx δ
  | .nop, δ, W, _ => W.nx δ
  | .seq a b, δ, W, X => wS a δ { nx := fun δ' => wS b δ' W X, rt := W.rt, bk := W.bk, ct := W.ct } X
  | .asg t e, δ, W, X => wE C e δ (fun r => wAsg t r δ W.nx) X
  | .par i j a b, δ, W, X => wE C a δ (fun ra => wE C b δ (fun rb => wNm i ra δ fun δ => wNm j rb δ W.nx) X) X
  | .par3 i j l a b c, δ, W, X => wE C a δ (fun ra => wE C b δ (fun rb => wE C c δ (fun rc => wNm i ra δ fun δ => wNm j rb δ fun δ => wNm l rc δ W.nx) X) X) X
  | .asgO i f e, δ, W, X => match δ[i]? with
      | some (.ownO a dx c fs) => wE C e δ (fun r => match r.dat with
        | some d => C.fld c f = true ∧ fs.lookup f = none ∧ fs.length < 1000 ∧ W.nx (δ.set i (.ownO a dx c (fs ++ [(f, d)])))
        | none => False) X
      | _ => False
  | .app i e, δ, W, X => match δ[i]? with
      | some (.own xs) => wE C e δ (fun r => match r.dat with
        | some d => xs.length < sizeLine ∧ W.nx (δ.set i (.own (xs ++ [d])))
        | none => False) X
      | _ => False
  | .drop e, δ, W, X => wE C e δ (fun _ => W.nx δ) X
  | .frz i, δ, W, _ => W.nx (frzD i δ)
  | .ret e, δ, W, X => wE C e δ (fun r => r.out = true ∧ W.rt r) X
  | .retV i, δ, W, _ => match δ[i]? with
      | some (.val d) => W.rt (.val d)
      | some (.own xs) => W.rt (.fresh xs)
      | some (.ownD kvs) => W.rt (.freshD kvs)
      | _ => False
  | .retN, δ, W, _ => W.rt (.val .non)
  | .ifs c a b, δ, W, X => wT C c δ (fun t => match t with | true => wS a δ W X | false => wS b δ W X) X
  | .for_ t it m b, δ, W, X => wIt C it δ (fun o xs => o = false ∧ (0 < costS C b → xs.length ≤ m) ∧ forD (fun x δ W' => wTg t x δ fun δ' => wS b δ' W' X) W xs δ) X
  | .popApp i j e, δ, W, X => i ≠ j ∧ (match δ[i]?, δ[j]? with
      | some (.own xs), some (.own ys) => wE C e δ (fun r => match r with
        | .val (.int n) => 0 ≤ n ∧ n < ys.length ∧ xs.length < sizeLine ∧ n < 2 ^ 63 ∧ ∀ d, ys[n.toNat]? = some d → W.nx ((δ.set j (.own (ys.eraseIdx n.toNat))).set i (.own (xs ++ [d])))
        | _ => False) X
      | _, _ => False)
  | .clr i, δ, W, _ => match δ[i]? with
      | some (.own _) => W.nx (δ.set i (.own []))
      | _ => False
  | .whl mm c b, δ, W, X => ∃ inv : Nat → List Sl → Prop, (∃ m, (0 < costE C c + costS C b → m ≤ mm) ∧ inv m δ) ∧ ∀ m δ, inv m δ → wT C c δ (fun t => match t with
      | true => wS b δ { nx := fun δ' => ∃ m', m' < m ∧ inv m' δ', rt := W.rt, bk := W.nx, ct := fun δ' => ∃ m', m' < m ∧ inv m' δ' } X
      | false => W.nx δ) X
  | .brk, δ, W, _ => W.bk δ
  | .cont, δ, W, _ => W.ct δ
  | .never, _, _, _ => False
end
/-! ### the check -/
def swB (sc : Scope) (y : Str) (py : Pos) (v : Expr) : Bool := match v with
  | .ListComp _ _ s p => (py.line == p.line) && (sc.names.lookup y == some .local) && !(s.names.any fun (n, k) => n == y && (k == .local || k == .cell))
  | _ => false
def isLc : Expr → Bool
  | .ListComp _ _ _ _ => true
  | _ => false
/-- a tuple of two or three values is not stored from the right -/
def noSwap (sc : Scope) (tg v : Expr) : Bool := match tg, v with
  | .Tuple ts _ _, .Tuple vs _ _ => vs.all (foldedForSure 8) || !(ts.length == 2 || ts.length == 3) || ts.any (fun e => match e with | .Name _ _ => false | _ => true)
  | _, _ => true
def nmOf : Expr → Option (Str × Pos)
  | .Name x p => some (x, p)
  | _ => none
def lclB (Γ : Sc) (i : Nat) (x : Str) : Bool := Γ.N[i]? == some x && Γ.sc.names.lookup x == some .local
def asgOf : Stmt → Option (Expr × Expr × Nat)
  | .Assign [tg] v p => some (tg, v, p.line)
  | _ => none
def parOf : Stmt → Option ((Str × Pos) × (Str × Pos) × Expr × Expr)
  | .Assign [.Tuple [.Name x px, .Name y py] _ _] (.Tuple [v, w] _ _) _ => some ((x, px), (y, py), v, w)
  | _ => none
def par3Of : Stmt → Option ((Str × Pos) × (Str × Pos) × (Str × Pos) × Expr × Expr × Expr)
  | .Assign [.Tuple [.Name x px, .Name y py, .Name z pz] _ _] (.Tuple [v, w, u] _ _) _ => some ((x, px), (y, py), (z, pz), v, w, u)
  | _ => none
def fldOf : Stmt → Option (Str × Str × Expr)
  | .Assign [.Attribute (.Name x _) y _] v _ => some (x, y, v)
  | _ => none
def appOf : Stmt → Option (Str × Str × Nat × Nat × Expr)
  | .Expr (.Call (.Attribute (.Name x _) m ap) [v] [] p) _ => some (x, m, ap.endLine, p.line, v)
  | _ => none
def popOf : Stmt → Option (Str × Str × Expr)
  | .Expr (.Call (.Attribute (.Name x _) m ap) [.Call (.Attribute (.Name y _) n aq) [v] [] q] [] p) _ => if m == "append" && n == "pop" && ap.endLine == p.line && aq.endLine == q.line then some (x, y, v) else none
  | _ => none
def clrOf : Stmt → Option Str
  | .Expr (.Call (.Attribute (.Name x _) m ap) [] [] p) _ => if m == "clear" && ap.endLine == p.line then some x else none
  | _ => none
theorem popOf_ok {s : Stmt} {x y : Str} {v : Expr} (h : popOf s = some (x, y, v)) : ∃ p1 ap p2 aq q p p3, s = .Expr (.Call (.Attribute (.Name x p1) "append" ap) [.Call (.Attribute (.Name y p2) "pop" aq) [v] [] q] [] p) p3 ∧ (ap.endLine == p.line) = true ∧ (aq.endLine == q.line) = true := by
  unfold popOf at h
  split at h
  · split at h
    · rename_i c
      cases h
      obtain ⟨c1, c2⟩ := ba c
      obtain ⟨c1, c3⟩ := ba c1
      obtain ⟨c1, c4⟩ := ba c1
      have c1 := eq_of_beq c1
      have c4 := eq_of_beq c4
      subst c1 c4
      exact ⟨_, _, _, _, _, _, _, rfl, c3, c2⟩
    · cases h
  · cases h
theorem clrOf_ok {s : Stmt} {x : Str} (h : clrOf s = some x) : ∃ p1 ap p p3, s = .Expr (.Call (.Attribute (.Name x p1) "clear" ap) [] [] p) p3 ∧ (ap.endLine == p.line) = true := by
  unfold clrOf at h
  split at h
  · split at h
    · rename_i c
      cases h
      obtain ⟨c1, c2⟩ := ba c
      have c1 := eq_of_beq c1
      subst c1
      exact ⟨_, _, _, _, rfl, c2⟩
    · cases h
  · cases h
theorem asgOf_ok {s : Stmt} {tg v : Expr} {l : Nat} (h : asgOf s = some (tg, v, l)) : ∃ p, s = .Assign [tg] v p ∧ p.line = l := by
  unfold asgOf at h
  split at h
  · cases h; exact ⟨_, rfl, rfl⟩
  · cases h
theorem parOf_ok {s : Stmt} {x y : Str} {px py : Pos} {v w : Expr} (h : parOf s = some ((x, px), (y, py), v, w)) : ∃ k p k2 p2 p3, s = .Assign [.Tuple [.Name x px, .Name y py] k p] (.Tuple [v, w] k2 p2) p3 := by
  unfold parOf at h
  split at h
  · cases h; exact ⟨_, _, _, _, _, rfl⟩
  · cases h
theorem par3Of_ok {s : Stmt} {x y z : Str} {px py pz : Pos} {v w u : Expr} (h : par3Of s = some ((x, px), (y, py), (z, pz), v, w, u)) : ∃ k p k2 p2 p3, s = .Assign [.Tuple [.Name x px, .Name y py, .Name z pz] k p] (.Tuple [v, w, u] k2 p2) p3 := by
  unfold par3Of at h
  split at h
  · cases h; exact ⟨_, _, _, _, _, rfl⟩
  · cases h
theorem fldOf_ok {s : Stmt} {x y : Str} {v : Expr} (h : fldOf s = some (x, y, v)) : ∃ p1 p2 p3, s = .Assign [.Attribute (.Name x p1) y p2] v p3 := by
  unfold fldOf at h
  split at h
  · cases h; exact ⟨_, _, _, rfl⟩
  · cases h
theorem appOf_ok {s : Stmt} {x m : Str} {a b : Nat} {v : Expr} (h : appOf s = some (x, m, a, b, v)) : ∃ p1 ap p p3, s = .Expr (.Call (.Attribute (.Name x p1) m ap) [v] [] p) p3 ∧ ap.endLine = a ∧ p.line = b := by
  unfold appOf at h
  split at h
  · cases h; exact ⟨_, _, _, _, rfl, rfl, rfl⟩
  · cases h
theorem nmOf_ok {e : Expr} {x : Str} {p : Pos} (h : nmOf e = some (x, p)) : e = .Name x p := by
  unfold nmOf at h
  split at h
  · cases h; rfl
  · cases h
section
variable (free : Str → Bool)
mutual
def chk1 (Γ : Sc) : St → Stmt → Bool
  | .nop, .Pass _ => true
  | .asg t e, s => match asgOf s with
    | some (tg, v, l) => chkTg Γ t tg && chkE free Γ e v && (match t, nmOf tg with
      | .nm _, some _ => plainVal v || isLc v
      | .nm _, none => false
      | _, none => plainVal v && noSwap Γ.sc tg v
      | _, some _ => false)
    | none => false
  | .par i j a b, s => match parOf s with
    | some ((x, px), (y, py), v, w) => lclB Γ i x && lclB Γ j y && i != j && x != y && px.line == py.line && nonStar v && nonStar w && chkE free Γ a v && chkE free Γ b w && !([v, w].all (foldedForSure 8)) && !([v, w].all (constantsAlone 8))
    | none => false
  | .par3 i j l a b c, s => match par3Of s with
    | some ((x, px), (y, py), (z, pz), v, w, u) => lclB Γ i x && lclB Γ j y && lclB Γ l z && i != j && i != l && j != l && x != y && x != z && y != z && px.line == py.line && px.line == pz.line && nonStar v && nonStar w && nonStar u && chkE free Γ a v && chkE free Γ b w && chkE free Γ c u && !([v, w, u].all (foldedForSure 8)) && !([v, w, u].all (constantsAlone 8))
    | none => false
  | .asgO i f e, s => match fldOf s with
    | some (x, y, v) => Γ.N[i]? == some x && visB Γ.sc x && noDbg x && !(x == ("__classdict__" : Str)) && y == f && chkE free Γ e v
    | none => false
  | .app i e, s => match appOf s with
    | some (x, m, la, lb, v) => Γ.N[i]? == some x && visB Γ.sc x && noDbg x && !(x == ("__classdict__" : Str)) && m == "append" && la == lb && nonStar v && chkE free Γ e v
    | none => false
  | .drop e, .Expr v _ => plainVal v && chkE free Γ e v
  | .ret e, .Return (some v) _ => chkE free Γ e v
  | .retV i, .Return (some (.Name x _)) _ => Γ.N[i]? == some x && visB Γ.sc x && noDbg x && !(x == ("__classdict__" : Str))
  | .retN, .Return none _ => true
  | .ifs c a b, .If t p q _ => chkT free Γ c t && chkS Γ a p && chkS Γ b q
  | .for_ t it _ b, .For tg iter p [] _ => nonSet iter && chkTg Γ t tg && chkIt free Γ it tg iter && chkS Γ b p
  | .whl _ c b, .While t p [] _ => chkT free Γ c t && chkS Γ b p
  | .popApp i j e, s => match popOf s with
    | some (x, y, v) => Γ.N[i]? == some x && visB Γ.sc x && noDbg x && !(x == ("__classdict__" : Str)) && (Γ.N[j]? == some y && visB Γ.sc y && noDbg y && !(y == ("__classdict__" : Str))) && nonStar v && chkE free Γ e v
    | none => false
  | .clr i, s => match clrOf s with
    | some x => Γ.N[i]? == some x && visB Γ.sc x && noDbg x && !(x == ("__classdict__" : Str))
    | none => false
  | .brk, .Break _ => true
  | .cont, .Continue _ => true
  | .never, _ => true
  | _, _ => false
def chkS (Γ : Sc) : St → List Stmt → Bool
  | .skip, [] => true
  | .seq (.frz _) b, ss => chkS Γ b ss
  | .seq a b, s :: ss => chk1 Γ a s && chkS Γ b ss
  | _, _ => false
end
end
end Dl

set_option Elab.async false
set_option linter.all false
set_option maxRecDepth 100000
set_option maxHeartbeats 4000000
/-! Dl: statements keep what wS says. -/
namespace Dl
open PySem PySem.Spec PyProof.Rows L2
def RunS (X : Cx) (s : Stmt) : TS := fun D σ H => ∀ (pins : List (Addr × Obj)) (sh : Shared), Inv X pins σ H sh → wpAny (model X.prog X.w) X.A (exec s X.env) (SP X pins D) X.xe sh
def RunSs (X : Cx) (s : List Stmt) : TS := fun D σ H => ∀ (pins : List (Addr × Obj)) (sh : Shared), Inv X pins σ H sh → wpAny (model X.prog X.w) X.A (execs s X.env) (SP X pins D) X.xe sh
def EndsD (g : Gb) (st : Option StA) (S0 H0 S : Hp) (W : WD) : Ends where
  nx := fun σ' H' => ∃ S' δ', Ex S S' ∧ Step st S0 H0 S' H' ∧ Dl.Env g st H0 S' H' δ' σ' ∧ W.nx δ'
  rt := fun v H' => ∃ S' r, Step st S0 H0 S' H' ∧ RepR g st H0 S' H0 H' r v ∧ r.out = true ∧ W.rt r
  bk := fun σ' H' => ∃ S' δ', Ex S S' ∧ Step st S0 H0 S' H' ∧ Dl.Env g st H0 S' H' δ' σ' ∧ W.bk δ'
  ct := fun σ' H' => ∃ S' δ', Ex S S' ∧ Step st S0 H0 S' H' ∧ Dl.Env g st H0 S' H' δ' σ' ∧ W.ct δ'
structure EndsLe (D D' : Ends) : Prop where
  nx : ∀ σ H, D.nx σ H → D'.nx σ H
  rt : ∀ v H, D.rt v H → D'.rt v H
  bk : ∀ σ H, D.bk σ H → D'.bk σ H
  ct : ∀ σ H, D.ct σ H → D'.ct σ H
section
variable {g : Gb} {C : Ct} {Γ : Sc} {k : Nat} {X : Cx} {st sx : Option StA} {S0 H0 S H S1 H1 H' : Hp} {σ : L2.St} {δ : List Sl} {ex : XD → Prop} {P : R → Prop} {v x y : V} {W : WD}
theorem SP.mono {pins : List (Addr × Obj)} {D D' : Ends} {f : Flow} {s' : Shared} (l : EndsLe D D') (h : SP X pins D f s') : SP X pins D' f s' := by
  cases f with
  | next => obtain ⟨σ', H', I, q⟩ := h; exact ⟨σ', H', I, l.nx _ _ q⟩
  | brk => obtain ⟨σ', H', I, q⟩ := h; exact ⟨σ', H', I, l.bk _ _ q⟩
  | cont => obtain ⟨σ', H', I, q⟩ := h; exact ⟨σ', H', I, l.ct _ _ q⟩
  | ret u => obtain ⟨v, σ', H', I, r, q⟩ := h; exact ⟨v, σ', H', I, r, l.rt _ _ q⟩
theorem RunS.mono {s : Stmt} {D D' : Ends} (h : RunS X s D σ H) (l : EndsLe D D') : RunS X s D' σ H := fun pins sh I => thn (h pins sh I) fun _ _ q => SP.mono l q
theorem RunSs.mono {s : List Stmt} {D D' : Ends} (h : RunSs X s D σ H) (l : EndsLe D D') : RunSs X s D' σ H := fun pins sh I => thn (h pins sh I) fun _ _ q => SP.mono l q
theorem RunS.of {s : Stmt} {D : Ends} {t : TS} (h : PS X s t) (q : t D σ H) : RunS X s D σ H := fun pins sh I => h.run pins sh σ H D I q
theorem RunSs.of {s : List Stmt} {D : Ends} {t : TS} (h : PSs X s t) (q : t D σ H) : RunSs X s D σ H := fun pins sh I => h.run pins sh σ H D I q
theorem ps_run {s : Stmt} : PS X s (RunS X s) := ⟨fun pins sh σ H D I h => h pins sh I⟩
theorem pss_run {s : List Stmt} : PSs X s (RunSs X s) := ⟨fun pins sh σ H D I h => h pins sh I⟩
theorem EndsD.le (e : Ex S S1) : EndsLe (EndsD g st S0 H0 S1 W) (EndsD g st S0 H0 S W) :=
  ⟨fun _ _ ⟨S', δ', h1, h2⟩ => ⟨S', δ', e.trans h1, h2⟩, fun _ _ h => h, fun _ _ ⟨S', δ', h1, h2⟩ => ⟨S', δ', e.trans h1, h2⟩, fun _ _ ⟨S', δ', h1, h2⟩ => ⟨S', δ', e.trans h1, h2⟩⟩
theorem EndsD.up {c : Nat} : EndsLe (EndsD g st S0 H0 S W) (EndsD g (Dl.up st c) S0 H0 S W) :=
  ⟨fun _ _ ⟨S', δ', h1, h2, h3, h4⟩ => ⟨S', δ', h1, h2.up, h3.up, h4⟩, fun _ _ ⟨S', r, h1, h2, h3⟩ => ⟨S', r, h1.up, h2.up, h3⟩, fun _ _ ⟨S', δ', h1, h2, h3, h4⟩ => ⟨S', δ', h1, h2.up, h3.up, h4⟩, fun _ _ ⟨S', δ', h1, h2, h3, h4⟩ => ⟨S', δ', h1, h2.up, h3.up, h4⟩⟩
theorem EndsLe.tr {D D' D'' : Ends} (a : EndsLe D D') (b : EndsLe D' D'') : EndsLe D D'' := ⟨fun _ _ h => b.nx _ _ (a.nx _ _ h), fun _ _ h => b.rt _ _ (a.rt _ _ h), fun _ _ h => b.bk _ _ (a.bk _ _ h), fun _ _ h => b.ct _ _ (a.ct _ _ h)⟩
theorem EndsD.upl {a b : Nat} (l : a ≤ b) : EndsLe (EndsD g (Dl.up st a) S0 H0 S W) (EndsD g (Dl.up st b) S0 H0 S W) := by
  have : b = a + (b - a) := by omega
  rw [this, ← up_up]
  exact EndsD.up
abbrev Po (X : Cx) : Prop := PassesOwn (model X.prog X.w) X.A X.env X.xe
variable (g C) in
def SndS (ir : St) : Prop := ∀ {Γ : Sc} {k : Nat} {X : Cx} {s : Stmt} {st sx : Option StA} {S0 H0 S H : Hp} {σ : L2.St} {δ : List Sl} {ex : XD → Prop} {W : WD}, chk1 C.free Γ ir s = true → Hyp g C Γ k X st sx S0 H0 S H σ δ ex → Po X → Γ.sc.kind = .function → Ok st S0 H0 → Fit st sx (costS C ir) → wS C ir δ W ex → RunS X s (EndsD g (up st (costS C ir)) S0 H0 S W) σ H
variable (g C) in
def SndSs (ir : St) : Prop := ∀ {Γ : Sc} {k : Nat} {X : Cx} {s : List Stmt} {st sx : Option StA} {S0 H0 S H : Hp} {σ : L2.St} {δ : List Sl} {ex : XD → Prop} {W : WD}, chkS C.free Γ ir s = true → Hyp g C Γ k X st sx S0 H0 S H σ δ ex → Po X → Γ.sc.kind = .function → Ok st S0 H0 → Fit st sx (costS C ir) → wS C ir δ W ex → RunSs X s (EndsD g (up st (costS C ir)) S0 H0 S W) σ H
/-! ### storing a result -/
theorem nm_ok {i : Nat} {r : R} {HS S' : Hp} {k : List Sl → Prop} (hb : Dl.Env g st H0 S' HS δ σ) (env : Dl.Env g st H0 S1 H1 δ σ) (hH0 : ∀ l, HS l = none → H0 l = none) (h : RepR g st H0 S1 HS H1 r v) (w : wNm i r δ k) : ∃ δ', Dl.Env g st H0 S1 H1 δ' (σ.set i (some v)) ∧ k δ' := by
  unfold wNm at w
  split at w
  · exact ⟨_, env.set_val h, w⟩
  · exact ⟨_, Env.set_new hb env hH0 h (.inl ⟨_, rfl, rfl⟩), w⟩
  · exact ⟨_, Env.set_new hb env hH0 h (.inr ⟨_, rfl, rfl⟩), w⟩
  · obtain ⟨t, h1, rfl⟩ := h
    exact ⟨_, env.set (s := .stt) 0 (fun _ => ⟨t, h1, rfl⟩) (fun z => by cases z), w⟩
  · exact w.elim
theorem Env.write {i : Nat} {s0 : Sl} (h : Dl.Env g st H0 S H δ σ) (hi : δ[i]? = some s0) (m : s0.mut = true) : ∃ l, SlOk g st H0 S H l σ[i]? s0 ∧ ∀ u s1, s1.mut = true → SlOk g st H0 S (upd H l u) l σ[i]? s1 → Dl.Env g st H0 S (upd H l u) (δ.set i s1) σ := by
  obtain ⟨hl, L, h1, h2⟩ := h
  have ilt := (List.getElem?_eq_some_iff.mp hi).1
  refine ⟨L i, h1 i s0 hi, fun u s1 m1 ok => ⟨by rw [List.length_set]; exact hl, L, fun j s e => ?_, fun j k s t ne e1 e2 a b => ?_⟩⟩
  · by_cases q : i = j
    · subst q
      rw [List.getElem?_set_self ilt] at e
      cases e
      exact ok
    · rw [List.getElem?_set_ne q] at e
      have a := h1 j s e
      cases hs : s.heapy with
      | true =>
        have ne := h2 i j s0 s q hi e m hs
        have ne' := Ne.symm ne
        cases s <;> first | (cases hs; done) | skip
        · obtain ⟨vs, e1, e2, e3⟩ := a; exact ⟨vs, e1, by rw [upd_ne ne']; exact e2, e3⟩
        · obtain ⟨vs, e1, e2, e3⟩ := a; exact ⟨vs, e1, by rw [upd_ne ne']; exact e2, e3⟩
        · obtain ⟨vs, e1, e2, e3⟩ := a; exact ⟨vs, e1, by rw [upd_ne ne']; exact e2, e3⟩
        · obtain ⟨vs, e1, e2, e3⟩ := a; exact ⟨vs, e1, by rw [upd_ne ne']; exact e2, e3⟩
        · obtain ⟨dx, vs, e1, e2, e3⟩ := a; exact ⟨dx, vs, e1, by rw [upd_ne ne']; exact e2, e3⟩
      | false => cases s <;> first | exact a | cases hs
  · have key : ∀ {n : Nat} {w : Sl}, (δ.set i s1)[n]? = some w → (n = i ∧ w = s1) ∨ (n ≠ i ∧ δ[n]? = some w) := fun {n w} e => by
      by_cases q : i = n
      · subst q
        rw [List.getElem?_set_self ilt] at e
        exact .inl ⟨rfl, (Option.some.inj e).symm⟩
      · rw [List.getElem?_set_ne q] at e
        exact .inr ⟨Ne.symm q, e⟩
    rcases key e1 with ⟨z1, z2⟩ | ⟨n1, f1⟩
    · rcases key e2 with ⟨z3, z4⟩ | ⟨n2, f2⟩
      · exact absurd (z1.trans z3.symm) ne
      · rw [z1]
        exact h2 i k s0 t (fun z => ne (z1.trans z)) hi f2 m b
    · rcases key e2 with ⟨z3, z4⟩ | ⟨n2, f2⟩
      · have hy : s0.heapy = true := by cases s0 <;> first | rfl | cases m
        rw [z3]
        exact h2 j i s s0 (fun z => ne (z.trans z3.symm)) f1 hi a hy
      · exact h2 j k s t ne f1 f2 a b
theorem Env.freeze {i : Nat} {s0 : Sl} (h : Dl.Env g st H0 S H δ σ) (hi : δ[i]? = some s0) (m : s0.mut = true) : ∃ l, SlOk g st H0 S H l σ[i]? s0 ∧ (S l = none → ∀ u d, SlOk g st H0 (upd S l u) H l σ[i]? (.val d) → Dl.Env g st H0 (upd S l u) H (δ.set i (.val d)) σ) := by
  obtain ⟨hl, L, h1, h2⟩ := h
  have ilt := (List.getElem?_eq_some_iff.mp hi).1
  refine ⟨L i, h1 i s0 hi, fun hn u d ok => ⟨by rw [List.length_set]; exact hl, L, fun j s e => ?_, fun j k s t ne e1 e2 a b => ?_⟩⟩
  · have en := Ex.new (o := u) hn
    by_cases q : i = j
    · subst q
      rw [List.getElem?_set_self ilt] at e
      cases e
      exact ok
    · rw [List.getElem?_set_ne q] at e
      have a := h1 j s e
      cases hs : s.heapy with
      | true =>
        have ne := h2 i j s0 s q hi e m hs
        have ne' := Ne.symm ne
        cases s <;> first | (cases hs; done) | skip
        · obtain ⟨vs, e1, e2, e3, e4, e5, e6⟩ := a; exact ⟨vs, e1, e2, by rw [upd_ne ne']; exact e3, e4, e5, Reps.mono en _ _ e6⟩
        · obtain ⟨vs, e1, e2, e3, e4, e5, e6⟩ := a; exact ⟨vs, e1, e2, by rw [upd_ne ne']; exact e3, e4, e5, RepK.mono en _ _ e6⟩
        · obtain ⟨vs, e1, e2, e3, e4, e5⟩ := a; exact ⟨vs, e1, e2, e3, e4, Reps.mono en _ _ e5⟩
        · obtain ⟨vs, e1, e2, e3, e4, e5⟩ := a; exact ⟨vs, e1, e2, e3, e4, RepK.mono en _ _ e5⟩
        · obtain ⟨dx, vs, e1, e2, e3, e4, e5, e6, e7⟩ := a; exact ⟨dx, vs, e1, e2, by rw [upd_ne ne']; exact e3, e4, e5, RepF.mono en _ _ e6, e7⟩
      | false =>
        cases s with
        | val d => obtain ⟨v, e1, e2⟩ := a; exact ⟨v, e1, Rep.mono en _ _ e2⟩
        | non => trivial
        | stt => exact a
        | _ => cases hs
  · have key : ∀ {n : Nat} {w : Sl}, (δ.set i (.val d))[n]? = some w → (n = i ∧ w = .val d) ∨ (n ≠ i ∧ δ[n]? = some w) := fun {n w} e => by
      by_cases q : i = n
      · subst q
        rw [List.getElem?_set_self ilt] at e
        exact .inl ⟨rfl, (Option.some.inj e).symm⟩
      · rw [List.getElem?_set_ne q] at e
        exact .inr ⟨Ne.symm q, e⟩
    rcases key e1 with ⟨rfl, rfl⟩ | ⟨n1, e1⟩
    · cases a
    · rcases key e2 with ⟨rfl, rfl⟩ | ⟨n2, e2⟩
      · cases b
      · exact h2 j k s t ne e1 e2 a b
theorem frz_ok {i : Nat} (env : Dl.Env g st H0 S H δ σ) (fr : Step st S0 H0 S H) (o0 : Ok st S0 H0) : ∃ S', Ex S S' ∧ Step st S0 H0 S' H ∧ Dl.Env g st H0 S' H (frzD i δ) σ := by
  unfold frzD
  split
  · rename_i xs e
    obtain ⟨l, ⟨vs, e1, e2, e3, e4, e5, e6⟩, f⟩ := env.freeze e rfl
    refine ⟨upd S l (.lst vs), Ex.new e3, fr.keep e4 e2 e3 e5, f e3 _ _ ⟨.ref l, e1, ?_⟩⟩
    simp only [Rep]
    exact ⟨l, vs, rfl, upd_same, Reps.mono (Ex.new e3) _ _ e6⟩
  · rename_i xs e
    obtain ⟨l, ⟨vs, e1, e2, e3, e4, e5, e6⟩, f⟩ := env.freeze e rfl
    refine ⟨upd S l (.dK vs), Ex.new e3, fr.keep e4 e2 e3 e5, f e3 _ _ ⟨.ref l, e1, ?_⟩⟩
    simp only [Rep]
    exact ⟨l, vs, rfl, .inl upd_same, RepK.mono (Ex.new e3) _ _ e6⟩
  · rename_i a d c fs e
    obtain ⟨l, ⟨dx, vs, e1, e2, e3, e4, e5, e6, e7⟩, f⟩ := env.freeze e rfl
    refine ⟨upd S l (.ins (g.cl c) dx vs), Ex.new e3, fr.keep e4 e2 e3 e5, f e3 _ _ ⟨.ref l, e1, ?_⟩⟩
    simp only [Rep]
    exact ⟨l, dx, vs, rfl, upd_same, RepF.mono (Ex.new e3) _ _ e6⟩
  · exact ⟨S, Ex.refl _, fr, env⟩
/-! ### single statements -/
theorem var_pe {i : Nat} {x : Str} {p : Pos} (cx : CxG g Γ k X) (h1 : (Γ.N[i]? == some x) = true) (h4 : visB Γ.sc x = true) (h3 : noDbg x = true) (h2 : (!(x == ("__classdict__" : Str))) = true) : PE X (.Name x p) (tVar i) :=
  pe_var (by rw [cx.N]; exact eq_of_beq h1) (by rw [cx.sc]; exact visB_ok h4) (noDbg_ok h3) (nb h2)
theorem po0 (o0 : Ok st S0 H0) (hh : Hyp g C Γ k X st sx S0 H0 S H σ δ ex) : ∀ l, H l = none → H0 l = none := fun l e => Step.back o0 hh.fr e
theorem sndS_ret {e : E} (ha : SndE g C e) : SndS g C (.ret e) := by
  intro Γ k X s st sx S0 H0 S H σ δ ex W hc hh po hk o0 ft hw
  cases s <;> try (simp [chk1] at hc; done)
  rename_i v p
  cases v <;> try (simp [chk1] at hc; done)
  simp only [chk1] at hc
  simp only [wS] at hw
  refine RunS.of (ps_ret pe_run) ?_
  refine (ha hc hh ft hw).mono fun v1 H1 ⟨S1, r, s1, r1, w1, w2⟩ => ?_
  exact ⟨S1, r, hh.fr.tr s1, (r1.since (po0 o0 hh)), w1, w2⟩
theorem sndS_retN : SndS g C .retN := by
  intro Γ k X s st sx S0 H0 S H σ δ ex W hc hh po hk o0 ft hw
  show RunS X _ (EndsD g (up st 0) S0 H0 S W) σ H
  rw [up_zero]
  cases s <;> try (simp [chk1] at hc; done)
  rename_i v p
  cases v <;> try (simp [chk1] at hc; done)
  simp only [wS] at hw
  exact RunS.of ps_retN ⟨S, .val .non, hh.fr, by simp only [RepR, Rep], rfl, hw⟩
theorem sndS_retV {i : Nat} : SndS g C (.retV i) := by
  intro Γ k X s st sx S0 H0 S H σ δ ex W hc hh po hk o0 ft hw
  show RunS X _ (EndsD g (up st 0) S0 H0 S W) σ H
  rw [up_zero]
  cases s <;> try (simp [chk1] at hc; done)
  rename_i v p
  cases v <;> try (simp [chk1] at hc; done)
  rename_i v
  cases v <;> try (simp [chk1] at hc; done)
  simp only [chk1] at hc
  obtain ⟨hc, h1⟩ := ba hc
  obtain ⟨hc, h2⟩ := ba hc
  obtain ⟨h4, h3⟩ := ba hc
  refine RunS.of (ps_ret (var_pe (i := i) hh.cx h4 h3 h2 h1)) ?_
  obtain ⟨_, L, e1, _⟩ := hh.env
  simp only [wS] at hw
  split at hw
  · rename_i d e
    obtain ⟨v, a1, a2⟩ := e1 i _ e
    exact ⟨v, a1, S, .val d, hh.fr, a2, rfl, hw⟩
  · rename_i xs e
    obtain ⟨vs, a1, a2, a3, a4, a5, a6⟩ := e1 i _ e
    exact ⟨_, a1, S, .fresh xs, hh.fr, ⟨_, vs, rfl, a2, a3, a4, a5, a6⟩, rfl, hw⟩
  · rename_i xs e
    obtain ⟨vs, a1, a2, a3, a4, a5, a6⟩ := e1 i _ e
    exact ⟨_, a1, S, .freshD xs, hh.fr, ⟨_, vs, rfl, a2, a3, a4, a5, a6⟩, rfl, hw⟩
  · exact hw.elim
theorem sndS_nop : SndS g C .nop := by
  intro Γ k X s st sx S0 H0 S H σ δ ex W hc hh po hk o0 ft hw
  show RunS X _ (EndsD g (up st 0) S0 H0 S W) σ H
  rw [up_zero]
  cases s <;> try (simp [chk1] at hc; done)
  exact RunS.of ps_pass ⟨S, δ, Ex.refl _, hh.fr, hh.env, hw⟩
theorem sndS_brk : SndS g C .brk := by
  intro Γ k X s st sx S0 H0 S H σ δ ex W hc hh po hk o0 ft hw
  show RunS X _ (EndsD g (up st 0) S0 H0 S W) σ H
  rw [up_zero]
  cases s <;> try (simp [chk1] at hc; done)
  exact RunS.of ps_break ⟨S, δ, Ex.refl _, hh.fr, hh.env, hw⟩
theorem sndS_cont : SndS g C .cont := by
  intro Γ k X s st sx S0 H0 S H σ δ ex W hc hh po hk o0 ft hw
  show RunS X _ (EndsD g (up st 0) S0 H0 S W) σ H
  rw [up_zero]
  cases s <;> try (simp [chk1] at hc; done)
  exact RunS.of ps_continue ⟨S, δ, Ex.refl _, hh.fr, hh.env, hw⟩
theorem sndS_never : SndS g C .never := by
  intro Γ k X s st sx S0 H0 S H σ δ ex W hc hh po hk o0 ft hw
  exact (show False from hw).elim
theorem sndS_drop {e : E} (ha : SndE g C e) : SndS g C (.drop e) := by
  intro Γ k X s st sx S0 H0 S H σ δ ex W hc hh po hk o0 ft hw
  cases s <;> try (simp [chk1] at hc; done)
  simp only [chk1] at hc
  obtain ⟨h1, h2⟩ := ba hc
  simp only [wS] at hw
  refine RunS.of (ps_expr pe_run (plainVal_swap h1)) ?_
  refine (ha h2 hh ft hw).mono fun v1 H1 ⟨S1, r, s1, r1, w1⟩ => ?_
  exact ⟨S1, δ, s1.ext, hh.fr.tr s1, hh.env.stp hh.o s1, w1⟩
theorem sndS_app {i : Nat} {e : E} (ha : SndE g C e) : SndS g C (.app i e) := by
  intro Γ k X s st sx S0 H0 S H σ δ ex W hc hh po hk o0 ft hw
  simp only [chk1] at hc
  split at hc <;> try (cases hc; done)
  rename_i xn m la lb x q
  obtain ⟨p1, ap, p, p3, es, el1, el2⟩ := appOf_ok q
  subst es
  obtain ⟨a1, c1⟩ := ba hc
  obtain ⟨a2, c2⟩ := ba a1
  obtain ⟨a3, c3⟩ := ba a2
  obtain ⟨a4, c4⟩ := ba a3
  obtain ⟨a5, c5⟩ := ba a4
  obtain ⟨a6, c6⟩ := ba a5
  obtain ⟨c8, c7⟩ := ba a6
  rw [← el1, ← el2] at c3
  have e4 := eq_of_beq c4
  subst e4
  simp only [wS] at hw
  have z2 := starEach_cons (xs := []) (env := X.env) c2
  refine RunS.of (ps_expr (pe_bm PySem.F.plainAttrs_list PySem.F.slot_list_append PySem.F.type_list_append mt_append (var_pe (i := i) hh.cx c8 c7 c6 c5) (pa_cons pe_run pa_nil z2) rfl (by rw [z2]; rfl) c3 z2 rfl) rfl) ?_
  split at hw
  · rename_i xs q
    have env := hh.env
    obtain ⟨l, ⟨vs, b1, b2, b3, b4, b5, b6⟩, _⟩ := env.write q rfl
    refine ⟨.ref l, b1, .inl ⟨rfl, vs, SqL.of b2⟩, ?_⟩
    refine (ha c1 hh ft hw).mono fun v1 H1 ⟨S1, r, s1, r1, w1⟩ => ?_
    dsimp only at w1
    split at w1
    · rename_i d e1
      obtain ⟨S2, s2, x2, r2, n2⟩ := r1.dat s1 e1
      have env2 := hh.env.stp hh.o s2
      obtain ⟨l', ⟨vs', d1, d2, d3, d4, d5, d6⟩, wr⟩ := env2.write q rfl
      have el : l' = l := by rw [d1] at b1; cases b1; rfl
      subst el
      obtain ⟨w1, w2⟩ := w1
      refine ⟨l', vs', v1, rfl, rfl, d2, by rw [d6.length]; exact w1, S2, _, s2.ext, (hh.fr.tr s2).write d4 d3 d5, wr (.lst (vs' ++ [v1])) (.own (xs ++ [d])) rfl ⟨vs' ++ [v1], d1, upd_same, d3, d4, d5, d6.append (Reps.one r2)⟩, w2⟩
    · exact w1.elim
  · exact hw.elim
theorem seqIx {n : Int} {l : Nat} (h1 : 0 ≤ n) (h2 : n < l) : seqIndex? n l = some n.toNat := by
  unfold seqIndex?
  have e : ¬ n < 0 := by omega
  simp [e, h1, h2]
theorem Reps.erase {g : Gb} {S : Hp} : ∀ {xs : List D} {vs : List V} (k : Nat), Reps g S xs vs → Reps g S (xs.eraseIdx k) (vs.eraseIdx k)
  | [], vs, k, h => by
    simp only [Reps] at h
    subst h
    simpa using Reps.nil
  | x :: xs, vs, k, h => by
    simp only [Reps] at h
    obtain ⟨v, r, rfl, h2, h3⟩ := h
    cases k with
    | zero => exact h3
    | succ k => exact Reps.cons h2 (Reps.erase k h3)
theorem sndS_popApp {i j : Nat} {e : E} (ha : SndE g C e) : SndS g C (.popApp i j e) := by
  intro Γ k X s st sx S0 H0 S H σ δ ex W hc hh po hk o0 ft hw
  simp only [chk1] at hc
  split at hc <;> try (cases hc; done)
  rename_i xn yn v q
  obtain ⟨p1, ap, p2, aq, qp, p, p3, rfl, el1, el2⟩ := popOf_ok q
  obtain ⟨a1, c1⟩ := ba hc
  obtain ⟨a2, c2⟩ := ba a1
  obtain ⟨a3, cy⟩ := ba a2
  obtain ⟨cy, y4⟩ := ba cy
  obtain ⟨cy, y3⟩ := ba cy
  obtain ⟨y1, y2⟩ := ba cy
  obtain ⟨a4, x4⟩ := ba a3
  obtain ⟨a5, x3⟩ := ba a4
  obtain ⟨x1, x2⟩ := ba a5
  simp only [wS] at hw
  obtain ⟨ne, hw⟩ := hw
  have z2 := starEach_cons (xs := []) (env := X.env) c2
  have pj := pe_bm (o := .Name yn p2) (cpos := qp) PySem.F.plainAttrs_list PySem.F.slot_list_pop PySem.F.type_list_pop mt_popAt (var_pe (i := j) hh.cx y1 y2 y3 y4) (pa_cons (pe_run (e := v)) pa_nil z2) rfl (by rw [z2]; rfl) el2 z2 rfl
  refine RunS.of (ps_expr (pe_bm PySem.F.plainAttrs_list PySem.F.slot_list_append PySem.F.type_list_append mt_append (var_pe (i := i) hh.cx x1 x2 x3 x4) (pa_cons pj pa_nil rfl) rfl rfl el1 rfl rfl) rfl) ?_
  split at hw
  · rename_i xs ys q1 q2
    obtain ⟨l, ⟨vs, b1, b2, b3, b4, b5, b6⟩, _⟩ := hh.env.write q1 rfl
    obtain ⟨m, ⟨ws, d1, d2, d3, d4, d5, d6⟩, _⟩ := hh.env.write q2 rfl
    refine ⟨.ref l, b1, .inl ⟨rfl, vs, SqL.of b2⟩, ?_⟩
    refine ⟨.ref m, d1, .inl ⟨rfl, ws, SqL.of d2⟩, ?_⟩
    refine (ha c1 hh ft hw).mono fun v1 H1 ⟨S1, r, s1, r1, w1⟩ => ?_
    dsimp only at w1
    split at w1
    · rename_i n
      simp only [RepR, Rep] at r1
      subst r1
      obtain ⟨n0, n1, n2, n3, w1⟩ := w1
      have env1 := hh.env.stp hh.o s1
      obtain ⟨m', ⟨ws', e1, e2, e3, e4, e5, e6⟩, wr⟩ := env1.write q2 rfl
      have em : m' = m := by rw [e1] at d1; cases d1; rfl
      subst em
      have hy : n.toNat < ys.length := by omega
      obtain ⟨y, g1, g2⟩ := e6.get' (List.getElem?_eq_getElem hy)
      have env2 := wr (.lst (ws'.eraseIdx n.toNat)) (.own (ys.eraseIdx n.toNat)) rfl ⟨ws'.eraseIdx n.toNat, e1, upd_same, e3, e4, e5, e6.erase _⟩
      have st2 := (hh.fr.tr s1).write e4 e3 e5 (u := HO.lst (ws'.eraseIdx n.toNat))
      have q3 : (δ.set j (.own (ys.eraseIdx n.toNat)))[i]? = some (.own xs) := by rw [List.getElem?_set_ne (Ne.symm ne)]; exact q1
      obtain ⟨l', ⟨vs', f1, f2, f3, f4, f5, f6⟩, wr2⟩ := env2.write q3 rfl
      have el : l' = l := by rw [f1] at b1; cases b1; rfl
      subst el
      have nlen : n < ((ws'.length : Nat) : Int) := by rw [e6.length]; exact n1
      refine ⟨m', ws', n, n.toNat, y, rfl, rfl, e2, by omega, n3, seqIx n0 nlen, g1, ?_⟩
      refine ⟨l', vs', y, rfl, rfl, f2, by rw [f6.length]; exact n2, S1, _, s1.ext, st2.write f4 f3 f5, wr2 (.lst (vs' ++ [y])) (.own (xs ++ [ys[n.toNat]])) rfl ⟨vs' ++ [y], f1, upd_same, f3, f4, f5, f6.append (Reps.one g2)⟩, w1 _ (List.getElem?_eq_getElem hy)⟩
    · exact w1.elim
  · exact hw.elim
theorem sndS_clr {i : Nat} : SndS g C (.clr i) := by
  intro Γ k X s st sx S0 H0 S H σ δ ex W hc hh po hk o0 ft hw
  simp only [chk1] at hc
  split at hc <;> try (cases hc; done)
  rename_i xn q
  obtain ⟨p1, ap, p, p3, rfl, el1⟩ := clrOf_ok q
  obtain ⟨a4, x4⟩ := ba hc
  obtain ⟨a5, x3⟩ := ba a4
  obtain ⟨x1, x2⟩ := ba a5
  simp only [wS] at hw
  refine RunS.of (ps_expr (pe_bm0 PySem.F.plainAttrs_list PySem.F.slot_list_clear PySem.F.type_list_clear mt_clear (var_pe (i := i) hh.cx x1 x2 x3 x4) rfl el1) rfl) ?_
  split at hw
  · rename_i xs q1
    obtain ⟨l, ⟨vs, b1, b2, b3, b4, b5, b6⟩, wr⟩ := hh.env.write q1 rfl
    have s0 : costS C (.clr i) = 0 := rfl
    refine ⟨.ref l, b1, .inl ⟨rfl, vs, SqL.of b2⟩, l, vs, rfl, rfl, b2, ?_⟩
    rw [s0, up_zero]
    exact ⟨S, _, Ex.refl _, hh.fr.write b4 b3 b5, wr (.lst []) (.own []) rfl ⟨[], b1, upd_same, b3, b4, b5, Reps.nil⟩, hw⟩
  · exact hw.elim
theorem sndS_asgO {i : Nat} {f : Str} {e : E} (ha : SndE g C e) : SndS g C (.asgO i f e) := by
  intro Γ k X s st sx S0 H0 S H σ δ ex W hc hh po hk o0 ft hw
  simp only [chk1] at hc
  split at hc <;> try (cases hc; done)
  rename_i xn y v q
  obtain ⟨p1, p2, p3, es⟩ := fldOf_ok q
  subst es
  obtain ⟨a1, c1⟩ := ba hc
  obtain ⟨a2, c2⟩ := ba a1
  obtain ⟨a3, c3⟩ := ba a2
  obtain ⟨a4, c4⟩ := ba a3
  obtain ⟨c6, c5⟩ := ba a4
  have e2 := eq_of_beq c2
  subst e2
  simp only [wS] at hw
  refine RunS.of (ps_fld (var_pe (i := i) hh.cx c6 c5 c4 c3) pe_run (by cases v <;> rfl)) ?_
  split at hw
  · rename_i aa ad c fs q
    refine (ha c1 hh ft hw).mono fun v1 H1 ⟨S1, r, s1, r1, w1⟩ => ?_
    dsimp only at w1
    split at w1
    · rename_i d e1
      obtain ⟨S2, s2, x2, r2, n2⟩ := r1.dat s1 e1
      have env2 := hh.env.stp hh.o s2
      obtain ⟨l', ⟨dx, vs', d1, d2, d3, d4, d5, d6, d7⟩, wr⟩ := env2.write q rfl
      obtain ⟨w0, w1, w2, w3⟩ := w1
      obtain ⟨z1, z2⟩ := hh.ct.fld _ _ w0
      refine ⟨.ref l', d1, l', g.cl c, dx, vs', rfl, d2, by rw [hh.cx.ok.K]; exact z1, by rw [hh.cx.ok.K]; exact z2, by rw [d6.length]; exact w2, S2, _, s2.ext, (hh.fr.tr s2).write d4 d3 d5, wr _ (.ownO aa ad c (fs ++ [(_, d)])) rfl ⟨dx, _, d1, upd_same, d3, d4, d5, d6.put w1 r2, d7⟩, w3⟩
    · exact w1.elim
  · exact hw.elim
theorem sndS_ifs {c : E} {a b : St} (hC : SndT g C c) (ha : SndSs g C a) (hb : SndSs g C b) : SndS g C (.ifs c a b) := by
  intro Γ k X s st sx S0 H0 S H σ δ ex W hc hh po hk o0 ft hw
  cases s <;> try (simp [chk1] at hc; done)
  simp only [chk1] at hc
  obtain ⟨a1, c1⟩ := ba hc
  obtain ⟨c3, c2⟩ := ba a1
  simp only [wS] at hw
  refine RunS.of (ps_if pt_run pss_run pss_run) ?_
  refine (hC c3 hh ft.l.l hw).mono fun t H1 ⟨S1, s1, w1⟩ => ?_
  cases t with
  | true => rw [if_pos rfl]; exact (ha c2 (hh.next s1) po hk o0.up ft.l.r w1).mono ((EndsD.le s1.ext).tr (by rw [up_up]; exact EndsD.upl (Nat.le_add_right ..)))
  | false => rw [if_neg (by simp)]; exact (hb c1 (hh.next s1) po hk o0.up (Fit.le ft (show costE C c + costS C b ≤ costE C c + costS C a + costS C b by omega)).r w1).mono ((EndsD.le s1.ext).tr (by rw [up_up]; exact EndsD.upl (show costE C c + costS C b ≤ costE C c + costS C a + costS C b by omega)))
theorem asg_gen {t : Tg} {v1 : V} {r : R} {o : Ok st S0 H0} {c : Nat} (hh : Hyp g C Γ k X st sx S0 H0 S H σ δ ex) (s1 : Step (up st c) S H S1 H1) (r1 : RepR g (up st c) H0 S1 H H1 r v1) (w : wAsg t r δ W.nx) : gTg X.K t v1 σ H1 (EndsD g (up st c) S0 H0 S W).nx := by
  have env1 := hh.env.stp hh.o s1
  cases t with
  | nm i =>
    obtain ⟨δ', e1, w1⟩ := nm_ok hh.env.up env1 (po0 o hh) r1 w
    exact ⟨S1, δ', s1.ext, hh.fr.tr s1, e1, w1⟩
  | t2 a b =>
    cases r <;> try (exact (show False from w).elim)
    exact tg_ok hh.cx.ok.K s1.ok env1 r1 w fun σ' δ' e' w' _ => ⟨S1, δ', s1.ext, hh.fr.tr s1, e', w'⟩
  | t3 a b c =>
    cases r <;> try (exact (show False from w).elim)
    exact tg_ok hh.cx.ok.K s1.ok env1 r1 w fun σ' δ' e' w' _ => ⟨S1, δ', s1.ext, hh.fr.tr s1, e', w'⟩
theorem blk_fn {env : PySem.Env} (h : env.scope.kind = .function) : env.blockKind = .function := by unfold Env.blockKind; rw [h]; rfl
theorem wipe_nil (σ : L2.St) : wipe σ [] = σ := rfl
theorem filt_lt {α β : Type} {f : α → Option β} : ∀ {l : List α}, (∃ a ∈ l, f a = none) → (l.filterMap f).length < l.length
  | [], h => by obtain ⟨a, ha, _⟩ := h; cases ha
  | x :: l, h => by
    cases q : f x with
    | none =>
      rw [List.filterMap_cons_none q]
      exact Nat.lt_succ_of_le (List.length_filterMap_le ..)
    | some b =>
      rw [List.filterMap_cons_some q]
      obtain ⟨a, ha, e⟩ := h
      rcases List.mem_cons.mp ha with rfl | ha
      · rw [q] at e; cases e
      · exact Nat.succ_lt_succ (filt_lt ⟨a, ha, e⟩)
theorem noSwap_ok {sc : Scope} {tg v : Expr} {env : PySem.Env} (ht : isTupE tg = true) (h : noSwap sc tg v = true) : swappedStores [tg] v env = pure none := by
  cases tg <;> try (cases ht; done)
  rename_i ts kk pp
  cases v <;> try rfl
  rename_i vs k2 p2
  unfold swappedStores
  simp only []
  split
  · rfl
  split
  · rfl
  split
  · rfl
  · rename_i h1 h2 h3
    split
    · rfl
    · rename_i h4
      exfalso
      simp only [noSwap] at h
      rcases Bool.or_eq_true_iff.mp h with h | h
      · rcases Bool.or_eq_true_iff.mp h with h | h
        · exact h4 h
        · apply h1
          rw [h]; rfl
      · apply h3
        obtain ⟨e, he, hn⟩ := List.any_eq_true.mp h
        have := filt_lt (f := fun x : Expr => match x with | .Name id pos => if env.kindOf id == some .local && pos.line == (ts.head?.map (·.pos.line)).getD 0 then some id else none | _ => none) (l := ts) ⟨e, he, by cases e <;> first | rfl | cases hn⟩
        rw [Bool.or_eq_true_iff]
        left
        simp only [bne_iff_ne, ne_eq]
        exact Nat.ne_of_lt this
theorem par_sw {x y : Str} {px py : Pos} {v w : Expr} {kk k2 : Nat} {p p2 : Pos} {env : PySem.Env} (hk : env.scope.kind = .function) (hx : env.scope.names.lookup x = some .local) (hy : env.scope.names.lookup y = some .local) (hxy : x ≠ y) (hl : (px.line == py.line) = true) (hv : nonStar v = true) (hw : nonStar w = true)
    (h1 : ([v, w].all (foldedForSure 8)) = false) (h2 : ([v, w].all (constantsAlone 8)) = false) : swappedStores [.Tuple [.Name x px, .Name y py] kk p] (.Tuple [v, w] k2 p2) env = pure (some [x, y]) := by
  have kx : env.kindOf x = some .local := hx
  have ky : env.kindOf y = some .local := hy
  have hl' := eq_of_beq hl
  have hn : (x == y) = false := by simpa using hxy
  have hn2 : (y == x) = false := by simpa using Ne.symm hxy
  unfold swappedStores
  simp only [blk_fn hk, h1, h2]
  simp [kx, ky, Expr.pos, hl', List.eraseDups_cons, hn, hn2, hxy, Ne.symm hxy]
  intro h
  exfalso
  rcases h with h | h
  · cases v <;> first | (cases h; done) | cases hv
  · cases w <;> first | (cases h; done) | cases hw
theorem par3_sw {x y z : Str} {px py pz : Pos} {v w u : Expr} {kk k2 : Nat} {p p2 : Pos} {env : PySem.Env} (hk : env.scope.kind = .function) (hx : env.scope.names.lookup x = some .local) (hy : env.scope.names.lookup y = some .local) (hz : env.scope.names.lookup z = some .local) (hxy : x ≠ y) (hxz : x ≠ z) (hyz : y ≠ z) (hl : (px.line == py.line) = true) (hm : (px.line == pz.line) = true) (hv : nonStar v = true) (hw : nonStar w = true) (hu : nonStar u = true)
    (h1 : ([v, w, u].all (foldedForSure 8)) = false) (h2 : ([v, w, u].all (constantsAlone 8)) = false) : swappedStores [.Tuple [.Name x px, .Name y py, .Name z pz] kk p] (.Tuple [v, w, u] k2 p2) env = pure (some [x, y, z]) := by
  have kx : env.kindOf x = some .local := hx
  have ky : env.kindOf y = some .local := hy
  have kz : env.kindOf z = some .local := hz
  have hl' := eq_of_beq hl
  have hm' := eq_of_beq hm
  have hn : (x == y) = false := by simpa using hxy
  have hn2 : (y == x) = false := by simpa using Ne.symm hxy
  unfold swappedStores
  simp only [blk_fn hk, h1, h2]
  simp [kx, ky, kz, Expr.pos, ← hl', ← hm', List.eraseDups_cons, hxy, Ne.symm hxy, hxz, Ne.symm hxz, hyz, Ne.symm hyz]
  intro h
  exfalso
  rcases h with h | h | h
  · cases v <;> first | (cases h; done) | cases hv
  · cases w <;> first | (cases h; done) | cases hw
  · cases u <;> first | (cases h; done) | cases hu
end
end Dl

set_option Elab.async false
set_option linter.all false
set_option maxRecDepth 100000
set_option maxHeartbeats 4000000
/-! Dl: assignments, loops, all statements. -/
namespace Dl
open PySem PySem.Spec PyProof.Rows L2
theorem sub1_lc {Γ : Sc} {o : Op1} {e : Expr} {gs : List Comprehension} {sc : Scope} {p : Pos} : sub1 Γ o (.ListComp e gs sc p) = none := by cases o <;> rfl
theorem sub2_lc {Γ : Sc} {o : Op2} {e : Expr} {gs : List Comprehension} {sc : Scope} {p : Pos} : sub2 Γ o (.ListComp e gs sc p) = none := by
  unfold sub2
  split
  · rfl
  · cases o <;> rfl
theorem subN_lc {Γ : Sc} {o : OpN} {e : Expr} {gs : List Comprehension} {sc : Scope} {p : Pos} : subN Γ o (.ListComp e gs sc p) = none := by cases o <;> rfl
section
variable {g : Gb} {C : Ct} {Γ : Sc} {k : Nat} {X : Cx} {st sx : Option StA} {S0 H0 S H S1 H1 H' : Hp} {σ : L2.St} {δ : List Sl} {ex : XD → Prop} {P : R → Prop} {v x y : V} {W : WD}
theorem tupE_of {t : Tg} {tg : Expr} (h : chkTg Γ t tg = true) (hn : nmOf tg = none) : isTupE tg = true ∧ nonStar tg = true ∧ (∀ i, t ≠ .nm i) := by
  cases tg <;> try (cases t <;> simp [chkTg] at h; done)
  · simp [nmOf] at hn
  · refine ⟨rfl, rfl, fun i e => ?_⟩
    subst e
    simp [chkTg] at h
theorem lc_nosw {e : Expr} {gs : List Comprehension} {scope : Scope} {pos py : Pos} {y : Str} {l : Nat} {env : PySem.Env} (hk : env.scope.kind = .function) (h : swB env.scope y py (.ListComp e gs scope pos) = false) : swapsWith (.ListComp e gs scope pos) (some (.Name y py)) l env = pure false := by
  have hb := blk_fn hk
  unfold swapsWith
  simp only [hb, Expr.pos]
  have ky : env.kindOf y = env.scope.names.lookup y := rfl
  rw [ky]
  unfold swB at h
  simp only at h
  cases q1 : (py.line == pos.line) <;> cases q2 : (env.scope.names.lookup y == some NameKind.local) <;> cases q3 : (scope.names.any fun (n, k) => n == y && (k == .local || k == .cell)) <;> simp_all
theorem tLc_mono {tg iter : Expr} {G : TG} {tt : TT} {te : TE} {vs : List Nat} {Q Q' : VK} (h : tLc (RunI X tg iter) G tt te vs σ H Q) (f : ∀ v H', Q v H' → Q' v H') : tLc (RunI X tg iter) G tt te vs σ H Q' :=
  RunI.mono (show RunI X tg iter σ H _ from h) fun J H1 h D hD =>
    let ⟨W, w0, t⟩ := h D hD
    ⟨W, w0, fun i m H w => (t i m H w).imp (fun ⟨a, b⟩ => ⟨a, f _ _ b⟩) id⟩
theorem sndS_asg {t : Tg} {e : E} (hS : Snd g C e) (hcm : ∀ elt t it cond own m, e = .comp elt t it cond own m → SndI g C it ∧ SndC g C cond ∧ SndE g C elt) : SndS g C (.asg t e) := by
  intro Γ k X s st sx S0 H0 S H σ δ ex W hc hh po hk o0 ft hw
  simp only [chk1] at hc
  split at hc <;> try (cases hc; done)
  rename_i tg v l q
  obtain ⟨p, es, el⟩ := asgOf_ok q
  subst es
  obtain ⟨a1, c1⟩ := ba hc
  obtain ⟨c3, c2⟩ := ba a1
  simp only [wS] at hw
  have run := hS.e c2 hh ft hw
  have gen : ∀ {v1 H1}, Post g (up st (costE C e)) H0 S H (fun r => wAsg t r δ W.nx) v1 H1 → gTg X.K t v1 σ H1 (EndsD g (up st (costE C e)) S0 H0 S W).nx := fun {v1 H1} ⟨S1, r, s1, r1, w1⟩ => asg_gen (o := o0) hh s1 r1 w1
  cases hn : nmOf tg with
  | none =>
    obtain ⟨h1, h2, h3⟩ := tupE_of c3 hn
    have c1' : (plainVal v && noSwap Γ.sc tg v) = true := by
      rw [hn] at c1
      cases t with
      | nm i => exact absurd rfl (h3 i)
      | _ => exact c1
    obtain ⟨d1, d2⟩ := ba c1'
    refine RunS.of (ps_asg pe_run (tg_pg hh.cx.sc hh.cx.N hh.cx.ok.nd hh.cx.ok.calm hh.cx.fo c3) (plainVal_swap d1) (noSwap_ok h1 d2) (by rw [asgEach h2]; rfl)) ?_
    exact run.mono fun v1 H1 q => gen q
  | some xp =>
    obtain ⟨x, px⟩ := xp
    have e0 := nmOf_ok hn
    subst e0
    cases t with
    | nm i =>
      have c1' : (plainVal v || isLc v) = true := by rw [hn] at c1; exact c1
      have c3' := c3
      simp only [chkTg] at c3'
      obtain ⟨c4, c5⟩ := ba c3'
      obtain ⟨c6, c7⟩ := ba c4
      have hi : X.N[i]? = some x := by rw [hh.cx.N]; exact eq_of_beq c6
      have hl : L2.Loc X.env.scope x := by rw [hh.cx.sc]; exact locB_ok c7
      have hf : X.fn x = true ∨ X.env.scope.names.lookup x = some .local := by
        rcases Bool.or_eq_true_iff.mp c5 with c | c
        · exact .inl (hh.cx.fo _ c)
        · exact .inr (by rw [hh.cx.sc]; exact eq_of_beq c)
      have plain : swapsWith v (some (.Name x px)) p.line X.env = pure false → RunS X (.Assign [.Name x px] v p) (EndsD g (up st (costE C e)) S0 H0 S W) σ H := fun hs => by
        refine RunS.of (ps_set hh.cx.ok.nd hi hl pe_run hs hf) ?_
        exact run.mono fun v1 H1 q => gen q
      rcases Bool.or_eq_true_iff.mp c1' with d | d
      · exact plain (plainVal_swap d)
      · cases v <;> try (cases d; done)
        rename_i ee gens scope pos
        cases hsw : swB Γ.sc x px (.ListComp ee gens scope pos) with
        | false => exact plain (lc_nosw (by rw [hh.cx.sc]; exact hk) (by rw [hh.cx.sc]; exact hsw))
        | true =>
          cases e with
          | comp elt t2 it cond own mm =>
            rcases gens with _ | ⟨⟨tg, iter, ifs, n⟩, _ | _⟩ <;> try (simp [chkE] at c2; done)
            obtain ⟨rfl, cc⟩ := compC_of c2
            simp only [swB] at hsw
            obtain ⟨b1, b2⟩ := ba hsw
            obtain ⟨b3, b4⟩ := ba b1
            have hyl : X.env.scope.names.lookup x = some .local := by rw [hh.cx.sc]; exact eq_of_beq b4
            obtain ⟨k1, k2, k3⟩ := hcm _ _ _ _ _ _ rfl
            refine RunS.of (ps_setLc hh.cx.ok.calm hh.cx.ok.nd hi hyl (sw_true (by rw [hh.cx.sc]; exact hk) hyl b3 (nb b2)) pi_run (blkOk_by (by rw [hh.cx.N, hh.cx.sc]; exact cc.c6)) (gb_ok hh.cx cc.c4) tb_ok eb_ok (foldSet cc.c7)) ?_
            have z := comp_lc k1 k2 k3 cc hh ft hw
            exact tLc_mono z fun v1 H1 q => gen q
          | _ => simp [chkE, callN, sub1_lc, sub2_lc, subN_lc] at c2
    | _ => rw [hn] at c1; cases c1
theorem lclB_ok {i : Nat} {x : Str} (cx : CxG g Γ k X) (h : lclB Γ i x = true) : X.N[i]? = some x ∧ X.env.scope.names.lookup x = some .local := by
  unfold lclB at h
  obtain ⟨h1, h2⟩ := ba h
  exact ⟨by rw [cx.N]; exact eq_of_beq h1, by rw [cx.sc]; exact eq_of_beq h2⟩
theorem ne_nat {i j : Nat} (h : (i != j) = true) : i ≠ j := by simpa using h
theorem ne_str {i j : Str} (h : (i != j) = true) : i ≠ j := by simpa using h
theorem nm_pick {i : Nat} {r : R} {k : List Sl → Prop} (w : wNm i r δ k) : ∃ δ1, k δ1 ∧ wNm i r δ (fun z => z = δ1) := by
  unfold wNm at w ⊢
  split at w
  · exact ⟨_, w, rfl⟩
  · exact ⟨_, w, rfl⟩
  · exact ⟨_, w, rfl⟩
  · exact ⟨_, w, rfl⟩
  · exact w.elim
theorem nm_at {i : Nat} {r : R} {HS S' : Hp} {δ1 : List Sl} (hb : Dl.Env g st H0 S' HS δ σ) (env : Dl.Env g st H0 S1 H1 δ σ) (hH0 : ∀ l, HS l = none → H0 l = none) (h : RepR g st H0 S1 HS H1 r v) (w : wNm i r δ (fun z => z = δ1)) : Dl.Env g st H0 S1 H1 δ1 (σ.set i (some v)) := by
  obtain ⟨δ', e, rfl⟩ := nm_ok hb env hH0 h w
  exact e
theorem sndS_par {i j : Nat} {a b : E} (ha : SndE g C a) (hb : SndE g C b) : SndS g C (.par i j a b) := by
  intro Γ k X s st sx S0 H0 S H σ δ ex W hc hh po hk o0 ft hw
  simp only [chk1] at hc
  split at hc <;> try (cases hc; done)
  rename_i x px y py v w q
  obtain ⟨kk, p, k2, p2, p3, es⟩ := parOf_ok q
  subst es
  obtain ⟨a1, c1⟩ := ba hc
  obtain ⟨a2, c2⟩ := ba a1
  obtain ⟨a3, c3⟩ := ba a2
  obtain ⟨a4, c4⟩ := ba a3
  obtain ⟨a5, c5⟩ := ba a4
  obtain ⟨a6, c6⟩ := ba a5
  obtain ⟨a7, c7⟩ := ba a6
  obtain ⟨a8, c8⟩ := ba a7
  obtain ⟨a9, c9⟩ := ba a8
  obtain ⟨c11, c10⟩ := ba a9
  obtain ⟨n1, l1⟩ := lclB_ok hh.cx c11
  obtain ⟨n2, l2⟩ := lclB_ok hh.cx c10
  simp only [wS] at hw
  refine RunS.of (ps_par hh.cx.ok.calm hh.cx.ok.nd n1 n2 (ne_nat c9) l1 l2 (pa_cons pe_run (pa_cons pe_run pa_nil (starEach_cons c5)) (starEach_cons c6)) (par_sw (by rw [hh.cx.sc]; exact hk) l1 l2 (ne_str c8) c7 c6 c5 (nb c2) (nb c1)) rfl) ?_
  refine (ha c4 hh ft.l hw).mono fun v1 H1 ⟨S1, ra, s1, r1, w1⟩ => ?_
  refine (hb c3 (hh.next s1) ft.r w1).mono fun v2 H2 ⟨S2, rb, s2, r2, w2⟩ => ?_
  refine ⟨v1, v2, rfl, ?_⟩
  have h0 := po0 o0 hh
  obtain ⟨δ1, w3, k1⟩ := nm_pick w2
  obtain ⟨δ2, w4, k2⟩ := nm_pick w3
  have e1 := nm_at hh.env.up (hh.env.stp hh.o s1) h0 r1 k1
  have e2 := nm_at hh.env.up.up ((hh.env.stp hh.o s1).stp s1.ok s2) h0 (r1.stp s1.ok s2) k1
  have e3 := nm_at e1.up e2 (fun l e => h0 l (Step.back hh.o.up s1 e)) r2 k2
  show (EndsD g (up st (costE C a + costE C b)) S0 H0 S W).nx _ _
  rw [← up_up]
  exact ⟨S2, δ2, (s1.tr s2).ext, (hh.fr.tr s1).tr s2, e3, w4⟩
theorem sndS_par3 {i j l : Nat} {a b c : E} (ha : SndE g C a) (hb : SndE g C b) (hC : SndE g C c) : SndS g C (.par3 i j l a b c) := by
  intro Γ k X s st sx S0 H0 S H σ δ ex W hc hh po hk o0 ft hw
  simp only [chk1] at hc
  split at hc <;> try (cases hc; done)
  rename_i x px y py z pz v w u q
  obtain ⟨kk, p, k2, p2, p3, es⟩ := par3Of_ok q
  subst es
  obtain ⟨a1, c1⟩ := ba hc
  obtain ⟨a2, c2⟩ := ba a1
  obtain ⟨a3, c3⟩ := ba a2
  obtain ⟨a4, c4⟩ := ba a3
  obtain ⟨a5, c5⟩ := ba a4
  obtain ⟨a6, c6⟩ := ba a5
  obtain ⟨a7, c7⟩ := ba a6
  obtain ⟨a8, c8⟩ := ba a7
  obtain ⟨a9, c9⟩ := ba a8
  obtain ⟨a10, c10⟩ := ba a9
  obtain ⟨a11, c11⟩ := ba a10
  obtain ⟨a12, c12⟩ := ba a11
  obtain ⟨a13, c13⟩ := ba a12
  obtain ⟨a14, c14⟩ := ba a13
  obtain ⟨a15, c15⟩ := ba a14
  obtain ⟨a16, c16⟩ := ba a15
  obtain ⟨a17, c17⟩ := ba a16
  obtain ⟨c19, c18⟩ := ba a17
  obtain ⟨n1, l1⟩ := lclB_ok hh.cx c19
  obtain ⟨n2, l2⟩ := lclB_ok hh.cx c18
  obtain ⟨n3, l3⟩ := lclB_ok hh.cx c17
  simp only [wS] at hw
  refine RunS.of (ps_par3 hh.cx.ok.calm hh.cx.ok.nd n1 n2 n3 (ne_nat c16) (ne_nat c15) (ne_nat c14) l1 l2 l3 (pa_cons pe_run (pa_cons pe_run (pa_cons pe_run pa_nil (starEach_cons c6)) (starEach_cons c7)) (starEach_cons c8)) (par3_sw (by rw [hh.cx.sc]; exact hk) l1 l2 l3 (ne_str c13) (ne_str c12) (ne_str c11) c10 c9 c8 c7 c6 (nb c2) (nb c1)) rfl) ?_
  refine (ha c5 hh ft.l.l hw).mono fun v1 H1 ⟨S1, ra, s1, r1, w1⟩ => ?_
  refine (hb c4 (hh.next s1) ft.l.r w1).mono fun v2 H2 ⟨S2, rb, s2, r2, w2⟩ => ?_
  refine (hC c3 ((hh.next s1).next s2) ft.r3 w2).mono fun v3 H3 ⟨S3, rc, s3, r3, w3⟩ => ?_
  refine ⟨v1, v2, v3, rfl, ?_⟩
  have h0 := po0 o0 hh
  have h1 : ∀ l, H1 l = none → H0 l = none := fun l e => h0 l (Step.back hh.o.up s1 e)
  obtain ⟨δ1, w4, k1⟩ := nm_pick w3
  obtain ⟨δ2, w5, k2⟩ := nm_pick w4
  obtain ⟨δ3, w6, k3⟩ := nm_pick w5
  have v1e := hh.env.stp hh.o s1
  have v2e := v1e.stp s1.ok s2
  have v3e := v2e.stp s2.ok s3
  have r1' := r1.stp s1.ok s2
  have e1 := nm_at hh.env.up v1e h0 r1 k1
  have e2 := nm_at hh.env.up.up v2e h0 r1' k1
  have e3 := nm_at hh.env.up.up.up v3e h0 (r1'.stp s2.ok s3) k1
  have e4 := nm_at e1.up e2 h1 r2 k2
  have e5 := nm_at e1.up.up e3 h1 (r2.stp s2.ok s3) k2
  have e6 := nm_at e4.up e5 (fun l e => h1 l (Step.back s1.ok.up s2 e)) r3 k3
  show (EndsD g (up st (costE C a + costE C b + costE C c)) S0 H0 S W).nx _ _
  rw [← up_up, ← up_up]
  exact ⟨S3, δ3, ((s1.tr s2).tr s3).ext, ((hh.fr.tr s1).tr s2).tr s3, e6, w6⟩
/-! ### loops -/
theorem sndS_for {t : Tg} {it : E} {m : Nat} {b : St} (hI : SndI g C it) (hb : SndSs g C b) : SndS g C (.for_ t it m b) := by
  intro Γ k X s st sx S0 H0 S H σ δ ex W hc hh po hk o0 ft hw
  cases s <;> try (simp [chk1] at hc; done)
  rename_i tg iter body orelse p
  cases orelse <;> try (simp [chk1] at hc; done)
  simp only [chk1] at hc
  obtain ⟨a1, c1⟩ := ba hc
  obtain ⟨a2, c2⟩ := ba a1
  obtain ⟨c4, c3⟩ := ba a2
  simp only [wS] at hw
  refine RunS.of (ps_for po hh.cx.ok.calm pi_run (tg_pg hh.cx.sc hh.cx.N hh.cx.ok.nd hh.cx.ok.calm hh.cx.fo c3) pss_run (foldSet c4)) ?_
  refine (hI c2 hh ft.l hw).mono fun J H1 ⟨S1, o, xs, s1, ⟨ho, wm, w1⟩, G, Y, wk, hG, hY⟩ => ?_
  subst ho
  have hh1 := hh.next s1
  have ftL : ∀ i, i < xs.length → Fit (up st (costE C it)) sx (i * costS C b + costS C b) := fun i hi => by
    refine Fit.le (show Fit (up st (costE C it)) sx (m * costS C b) from ft.r) ?_
    by_cases hp : 0 < costS C b
    · have := wm hp
      rw [← Nat.succ_mul]
      exact Nat.mul_le_mul_right _ (by omega)
    · have : costS C b = 0 := by omega
      rw [this]; simp
  have top : ∀ {i : Nat}, i ≤ xs.length → costE C it + i * costS C b ≤ costE C it + m * costS C b := fun {i} hi => by
    by_cases hp : 0 < costS C b
    · exact Nat.add_le_add_left (Nat.mul_le_mul_right _ (Nat.le_trans hi (wm hp))) _
    · have : costS C b = 0 := by omega
      rw [this]; simp
  refine for_it (g := gTg X.K t) (tb := RunSs X body) (D := EndsD g (up st (costE C it + m * costS C b)) S0 H0 S W) wk (fun i σ' H' => ∃ S' δ', Ex S1 S' ∧ Step (up (up st (costE C it)) (i * costS C b)) S0 H0 S' H' ∧ Dl.Env g (up (up st (costE C it)) (i * costS C b)) H0 S' H' δ' σ' ∧ forD (fun x δ W' => wTg t x δ fun δ' => wS C b δ' W' ex) W (xs.drop i) δ') ?_ ?_ ?_ ?_
  · refine ⟨S1, δ, Ex.refl _, ?_, ?_, by rw [List.drop_zero]; exact w1⟩
    · rw [Nat.zero_mul, up_zero]; exact hh1.fr
    · rw [Nat.zero_mul, up_zero]; exact hh1.env
  · rintro i σ' H' hi ⟨S', δ', x1, s2, _⟩
    refine hG S' H' x1 s2.sub fun l u h1 h2 h3 h4 => ?_
    have h4 : H0 l ≠ none := h4.resolve_left (by simp)
    cases q : H0 l with
    | none => exact absurd q h4
    | some u0 =>
      have n0 : S0 l = none := hh1.fr.ext.none h2
      have z1 := (hh1.fr.out l u0 q n0 h3).1
      have z2 := (s2.out l u0 q n0 fun z => h3 (isSt_up.mp z)).1
      rw [h1] at z1
      cases z1
      exact z2
  · rintro i x σ' H' H2 hi ⟨S', δ', x1, s2, e2, w2⟩ hy
    obtain ⟨S2, d, s3, e3, r1⟩ := hY _ i S' H' x H2 s2.ok x1 hy hi
    rw [drop_cons e3] at w2
    simp only [forD] at w2
    refine tg_ok hh.cx.ok.K s3.ok (e2.step s2.ok s3) r1 w2 fun σ2 δ2 e4 w4 _ => ?_
    have hyp : Hyp g C Γ k X (up (up st (costE C it)) (i * costS C b)) sx S0 H0 S2 H2 σ2 δ2 ex := ⟨hh.ct, hh.cx, hh.tk, s2.trans s3, e4, hh.lm⟩
    have tot : up (up (up st (costE C it)) (i * costS C b)) (costS C b) = up (up st (costE C it)) ((i + 1) * costS C b) := by rw [up_up (st := up st (costE C it)), Nat.succ_mul]
    have tot2 : up (up st (costE C it)) ((i + 1) * costS C b) = up st (costE C it + (i + 1) * costS C b) := up_up
    refine (hb c1 hyp po hk o0.up.up (ftL i hi).r w4).mono ⟨?_, ?_, ?_, ?_⟩
    · rintro σ5 H5 ⟨S5, δ5, x5, s5, e5, w5⟩
      rw [tot] at s5 e5
      exact ⟨S5, δ5, (x1.trans s3.ext).trans x5, s5, e5, w5⟩
    · rintro v5 H5 ⟨S5, r5, s5, e5, w5⟩
      rw [tot, tot2] at s5 e5
      exact ⟨S5, r5, s5.le (top hi), e5.le (top hi), w5⟩
    · rintro σ5 H5 ⟨S5, δ5, x5, s5, e5, w5⟩
      rw [tot, tot2] at s5 e5
      exact ⟨S5, δ5, ((s1.ext.trans x1).trans s3.ext).trans x5, s5.le (top hi), e5.le (top hi), w5⟩
    · rintro σ5 H5 ⟨S5, δ5, x5, s5, e5, w5⟩
      rw [tot] at s5 e5
      exact ⟨S5, δ5, (x1.trans s3.ext).trans x5, s5, e5, w5⟩
  · rintro σ' H' ⟨S', δ', x1, s2, e2, w2⟩
    rw [List.drop_length] at w2
    simp only [forD] at w2
    rw [up_up] at s2 e2
    exact ⟨S', δ', s1.ext.trans x1, s2.le (top (Nat.le_refl _)), e2.le (top (Nat.le_refl _)), w2⟩
theorem sndS_whl {mm : Nat} {c : E} {b : St} (hC : SndT g C c) (hb : SndSs g C b) : SndS g C (.whl mm c b) := by
  intro Γ k X s st sx S0 H0 S H σ δ ex W hc hh po hk o0 ft hw
  cases s <;> try (simp [chk1] at hc; done)
  rename_i t body orelse p
  cases orelse <;> try (simp [chk1] at hc; done)
  simp only [chk1] at hc
  obtain ⟨c2, c1⟩ := ba hc
  simp only [wS] at hw
  obtain ⟨inv, ⟨m0, hm0, i0⟩, hinv⟩ := hw
  have top : ∀ {j m : Nat}, (0 < costE C c + costS C b → j + m ≤ mm) → j * (costE C c + costS C b) + (costE C c + costS C b) ≤ (mm + 1) * (costE C c + costS C b) := fun {j m} h => by
    by_cases hp : 0 < costE C c + costS C b
    · have := h hp
      rw [← Nat.succ_mul]
      exact Nat.mul_le_mul_right _ (by omega)
    · have : costE C c + costS C b = 0 := by omega
      rw [this]; simp
  refine RunS.of (ps_while po pt_run pss_run) ?_
  refine ⟨fun m σ' H' => ∃ S' δ' j, (0 < costE C c + costS C b → j + m ≤ mm) ∧ Ex S S' ∧ Step (up st (j * (costE C c + costS C b))) S0 H0 S' H' ∧ Dl.Env g (up st (j * (costE C c + costS C b))) H0 S' H' δ' σ' ∧ inv m δ', ⟨m0, S, δ, 0, fun h => by have := hm0 h; omega, Ex.refl _, by rw [Nat.zero_mul, up_zero]; exact hh.fr, by rw [Nat.zero_mul, up_zero]; exact hh.env, i0⟩, ?_⟩
  rintro m σ' H' ⟨S', δ', j, hj, x1, s1, e1, i1⟩
  have fj : Fit (up st (j * (costE C c + costS C b))) sx (costE C c + costS C b) := (Fit.le (show Fit st sx ((mm + 1) * (costE C c + costS C b)) from ft) (top hj)).r
  have hyp : Hyp g C Γ k X (up st (j * (costE C c + costS C b))) sx S0 H0 S' H' σ' δ' ex := ⟨hh.ct, hh.cx, hh.tk, s1, e1, hh.lm⟩
  have le1 : j * (costE C c + costS C b) + costE C c ≤ (mm + 1) * (costE C c + costS C b) := by have := top hj; omega
  refine (hC c2 hyp fj.l (hinv m δ' i1)).mono fun t H2 ⟨S2, s2, w2⟩ => ?_
  have e2 : Dl.Env g (up (up st (j * (costE C c + costS C b))) (costE C c)) H0 S2 H2 δ' σ' := (e1.up).step s1.ok.up s2
  cases t with
  | false =>
    rw [if_neg (by simp)]
    have s3 := s1.up.trans s2
    rw [up_up] at s3 e2
    exact ⟨S2, δ', x1.trans s2.ext, s3.le le1, e2.le le1, w2⟩
  | true =>
    rw [if_pos rfl]
    have tot : up (up (up st (j * (costE C c + costS C b))) (costE C c)) (costS C b) = up st ((j + 1) * (costE C c + costS C b)) := by
      rw [up_up, up_up, Nat.succ_mul]
    have le2 : (j + 1) * (costE C c + costS C b) ≤ (mm + 1) * (costE C c + costS C b) := by rw [Nat.succ_mul]; exact top hj
    refine ⟨fun σ' H' => ∃ S' δ', Ex S S' ∧ Step (up st ((j + 1) * (costE C c + costS C b))) S0 H0 S' H' ∧ Dl.Env g (up st ((j + 1) * (costE C c + costS C b))) H0 S' H' δ' σ' ∧ ∃ m', m' < m ∧ inv m' δ', ?_, ?_⟩
    · rintro σ5 H5 ⟨S5, δ5, x5, s5, e5, m', hm, i5⟩
      exact ⟨m', hm, S5, δ5, j + 1, fun h => by have := hj h; omega, x5, s5, e5, i5⟩
    · have hyp2 : Hyp g C Γ k X (up (up st (j * (costE C c + costS C b))) (costE C c)) sx S0 H0 S2 H2 σ' δ' ex := ⟨hh.ct, hh.cx, hh.tk, s1.up.trans s2, e2, hh.lm⟩
      refine (hb c1 hyp2 po hk o0.up.up fj.r w2).mono ⟨?_, ?_, ?_, ?_⟩
      · rintro σ5 H5 ⟨S5, δ5, x5, s5, e5, w5⟩
        rw [tot] at s5 e5
        exact ⟨S5, δ5, (x1.trans s2.ext).trans x5, s5, e5, w5⟩
      · rintro v5 H5 ⟨S5, r5, s5, e5, w5⟩
        rw [tot] at s5 e5
        exact ⟨S5, r5, s5.le le2, e5.le le2, w5⟩
      · rintro σ5 H5 ⟨S5, δ5, x5, s5, e5, w5⟩
        rw [tot] at s5 e5
        exact ⟨S5, δ5, (x1.trans s2.ext).trans x5, s5.le le2, e5.le le2, w5⟩
      · rintro σ5 H5 ⟨S5, δ5, x5, s5, e5, w5⟩
        rw [tot] at s5 e5
        exact ⟨S5, δ5, (x1.trans s2.ext).trans x5, s5, e5, w5⟩
/-! ### all statements -/
theorem sndSs_skip : SndSs g C .skip := by
  intro Γ k X s st sx S0 H0 S H σ δ ex W hc hh po hk o0 ft hw
  cases s <;> try (simp [chkS] at hc; done)
  show RunSs X _ (EndsD g (up st 0) S0 H0 S W) σ H
  rw [up_zero]
  exact RunSs.of pss_nil ⟨S, δ, Ex.refl _, hh.fr, hh.env, hw⟩
theorem sndSs_frz {i : Nat} {b : St} (hb : SndSs g C b) : SndSs g C (.seq (.frz i) b) := by
  intro Γ k X s st sx S0 H0 S H σ δ ex W hc hh po hk o0 ft hw
  simp only [chkS] at hc
  simp only [wS] at hw
  obtain ⟨S', x1, s1, e1⟩ := frz_ok (i := i) hh.env hh.fr o0
  have ft : Fit st sx (0 + costS C b) := ft
  rw [Nat.zero_add] at ft
  show RunSs X _ (EndsD g (up st (0 + costS C b)) S0 H0 S W) σ H
  rw [Nat.zero_add]
  exact (hb hc ⟨hh.ct, hh.cx, hh.tk, s1, e1, hh.lm⟩ po hk o0 ft hw).mono (EndsD.le x1)
theorem sndSs_seq {a b : St} (ha : SndS g C a) (hb : SndSs g C b) (hn : ∀ i, a ≠ .frz i) : SndSs g C (.seq a b) := by
  intro Γ k X s st sx S0 H0 S H σ δ ex W hc hh po hk o0 ft hw
  cases s with
  | nil => cases a <;> first | (simp [chkS] at hc; done) | exact absurd rfl (hn _)
  | cons s ss =>
    have hc' : (chk1 C.free Γ a s && chkS C.free Γ b ss) = true := by
      cases a <;> first | exact absurd rfl (hn _) | simpa only [chkS] using hc
    obtain ⟨c1, c2⟩ := ba hc'
    simp only [wS] at hw
    refine RunSs.of (pss_cons ps_run pss_run) ?_
    refine (ha c1 hh po hk o0 ft.l hw).mono ⟨?_, ?_, ?_, ?_⟩
    · rintro σ5 H5 ⟨S5, δ5, x5, s5, e5, w5⟩
      exact (hb c2 ⟨hh.ct, hh.cx, hh.tk, s5, e5, hh.lm⟩ po hk o0.up ft.r w5).mono ((EndsD.le x5).tr (by rw [up_up]; exact ⟨fun _ _ h => h, fun _ _ h => h, fun _ _ h => h, fun _ _ h => h⟩))
    · rintro v5 H5 h; exact (EndsD.upl (S := S) (W := W) (Nat.le_add_right (costS C a) (costS C b))).rt _ _ h
    · rintro v5 H5 h; exact (EndsD.upl (S := S) (W := W) (Nat.le_add_right (costS C a) (costS C b))).bk _ _ h
    · rintro v5 H5 h; exact (EndsD.upl (S := S) (W := W) (Nat.le_add_right (costS C a) (costS C b))).ct _ _ h
theorem noS {ir : St} (h : ∀ {Γ : Sc} {s : Stmt}, chk1 C.free Γ ir s = true → False) : SndS g C ir := fun {Γ k X s st sx S0 H0 S H σ δ ex W} hc _ _ _ _ _ _ => (h hc).elim
theorem noSs {ir : St} (h : ∀ {Γ : Sc} {s : List Stmt}, chkS C.free Γ ir s = true → False) : SndSs g C ir := fun {Γ k X s st sx S0 H0 S H σ δ ex W} hc _ _ _ _ _ _ => (h hc).elim
theorem snd_st (ir : St) : SndS g C ir ∧ SndSs g C ir := by
  induction ir with
  | skip => exact ⟨noS fun {Γ s} hc => by cases s <;> simp [chk1] at hc, sndSs_skip⟩
  | seq a b iha ihb =>
    refine ⟨noS fun {Γ s} hc => by cases s <;> simp [chk1] at hc, ?_⟩
    by_cases h : ∃ i, a = .frz i
    · obtain ⟨i, rfl⟩ := h
      exact sndSs_frz ihb.2
    · exact sndSs_seq iha.1 ihb.2 fun i e => h ⟨i, e⟩
  | asg t e =>
    refine ⟨sndS_asg (snd_all e).1 fun elt t it cond own m he => ⟨(snd_all it).1.i, (snd_all cond).1.c, (snd_all elt).1.e⟩, noSs fun {Γ s} hc => by cases s <;> simp [chkS] at hc⟩
  | par i j a b => exact ⟨sndS_par (snd_all a).1.e (snd_all b).1.e, noSs fun {Γ s} hc => by cases s <;> simp [chkS] at hc⟩
  | par3 i j l a b c => exact ⟨sndS_par3 (snd_all a).1.e (snd_all b).1.e (snd_all c).1.e, noSs fun {Γ s} hc => by cases s <;> simp [chkS] at hc⟩
  | asgO i f e => exact ⟨sndS_asgO (snd_all e).1.e, noSs fun {Γ s} hc => by cases s <;> simp [chkS] at hc⟩
  | app i e => exact ⟨sndS_app (snd_all e).1.e, noSs fun {Γ s} hc => by cases s <;> simp [chkS] at hc⟩
  | drop e => exact ⟨sndS_drop (snd_all e).1.e, noSs fun {Γ s} hc => by cases s <;> simp [chkS] at hc⟩
  | frz i => exact ⟨noS fun {Γ s} hc => by cases s <;> simp [chk1] at hc, noSs fun {Γ s} hc => by cases s <;> simp [chkS] at hc⟩
  | ret e => exact ⟨sndS_ret (snd_all e).1.e, noSs fun {Γ s} hc => by cases s <;> simp [chkS] at hc⟩
  | retV i => exact ⟨sndS_retV, noSs fun {Γ s} hc => by cases s <;> simp [chkS] at hc⟩
  | retN => exact ⟨sndS_retN, noSs fun {Γ s} hc => by cases s <;> simp [chkS] at hc⟩
  | ifs c a b iha ihb => exact ⟨sndS_ifs (snd_all c).1.t iha.2 ihb.2, noSs fun {Γ s} hc => by cases s <;> simp [chkS] at hc⟩
  | for_ t it m b ihb => exact ⟨sndS_for (snd_all it).1.i ihb.2, noSs fun {Γ s} hc => by cases s <;> simp [chkS] at hc⟩
  | popApp i j e => exact ⟨sndS_popApp (snd_all e).1.e, noSs fun {Γ s} hc => by cases s <;> simp [chkS] at hc⟩
  | clr i => exact ⟨sndS_clr, noSs fun {Γ s} hc => by cases s <;> simp [chkS] at hc⟩
  | whl mm c b ihb => exact ⟨sndS_whl (snd_all c).1.t ihb.2, noSs fun {Γ s} hc => by cases s <;> simp [chkS] at hc⟩
  | brk => exact ⟨sndS_brk, noSs fun {Γ s} hc => by cases s <;> simp [chkS] at hc⟩
  | cont => exact ⟨sndS_cont, noSs fun {Γ s} hc => by cases s <;> simp [chkS] at hc⟩
  | never => exact ⟨sndS_never, noSs fun {Γ s} hc => by cases s <;> simp [chkS] at hc⟩
  | nop => exact ⟨sndS_nop, noSs fun {Γ s} hc => by cases s <;> simp [chkS] at hc⟩
end
end Dl

set_option Elab.async false
set_option linter.all false
set_option maxRecDepth 100000
set_option maxHeartbeats 4000000
/-! Dl: a def, by its checked text. -/
namespace Dl
open PySem PySem.Spec PyProof.Rows L2
theorem zip_lookup : ∀ {ns : List Str} {us : List Value} {i : Nat} {n : Str} {u : Value}, ns.Nodup → ns[i]? = some n → us[i]? = some u → (ns.zip us).lookup n = some u
  | [], _, _, _, _, _, h, _ => by simp at h
  | m :: ns, [], _, _, _, _, _, h => by simp at h
  | m :: ns, v :: us, 0, n, u, nd, h1, h2 => by
    simp at h1 h2; subst h1 h2
    simp
  | m :: ns, v :: us, i + 1, n, u, nd, h1, h2 => by
    have nd' := List.nodup_cons.mp nd
    have h1' : ns[i]? = some n := by simpa using h1
    have ne : (n == m) = false := by
      have : n ≠ m := by rintro rfl; exact nd'.1 (List.mem_of_getElem? h1')
      simpa using this
    simp only [List.zip_cons_cons, List.lookup_cons, ne]
    exact zip_lookup nd'.2 h1' (by simpa using h2)
theorem zip_filter {ns : List Str} {us : List Value} (nd : ns.Nodup) (hl : us.length = ns.length) : ns.filterMap (fun n => ((ns.zip us).lookup n).map (n, ·)) = ns.zip us := by
  have key : ∀ (l : List Str) (vs : List Value), l.length = vs.length → (∀ p ∈ l.zip vs, (ns.zip us).lookup p.1 = some p.2) → l.filterMap (fun n => ((ns.zip us).lookup n).map (n, ·)) = l.zip vs := by
    intro l
    induction l with
    | nil => intro vs _ _; rfl
    | cons a l ih =>
      intro vs hl h
      cases vs with
      | nil => cases hl
      | cons v vs =>
        have h1 := h (a, v) (by simp)
        rw [List.filterMap_cons_some (b := (a, v)) (by simp only [h1, Option.map])]
        rw [ih vs (by simpa using hl) fun p hp => h p (by simp [hp])]
        rfl
  refine key ns us hl.symm fun p hp => ?_
  obtain ⟨i, hi, e⟩ := List.mem_iff_getElem.mp hp
  have e1 : ns[i]? = some p.1 := by
    have : i < ns.length := by simp at hi; omega
    rw [List.getElem?_eq_getElem this]
    rw [List.getElem_zip] at e
    rw [← e]
  have e2 : us[i]? = some p.2 := by
    have : i < us.length := by simp at hi; omega
    rw [List.getElem?_eq_getElem this]
    rw [List.getElem_zip] at e
    rw [← e]
  exact zip_lookup nd e1 e2
def plainArgs (p : Arguments) : Bool := p.posonlyargs.isEmpty && p.vararg.isNone && p.kwonlyargs.isEmpty && p.kwarg.isNone
theorem bind_plain {x qual : Str} {params : Arguments} {body : List Stmt} {scope : Scope} {kV doc pm : Value} {an : Option Addr} {cdv ct : Value} {us : List Value} (hp : plainArgs params = true) (nd : (params.args.map (·.arg)).Nodup) (hl : us.length = (params.args.map (·.arg)).length) :
    bindArgs (PySem.W.fnOf x qual params body scope .none kV doc pm an cdv ct) ⟨us, []⟩ = pure ((params.args.map (·.arg)).zip us) := by
  obtain ⟨pos, args, va, ko, kd, ka, df⟩ := params
  simp only [plainArgs] at hp
  obtain ⟨hp, h4⟩ := ba hp
  obtain ⟨hp, h3⟩ := ba hp
  obtain ⟨h1, h2⟩ := ba hp
  cases pos <;> try (cases h1; done)
  cases va <;> try (cases h2; done)
  cases ko <;> try (cases h3; done)
  cases ka <;> try (cases h4; done)
  simp only at nd hl
  have hk := zip_filter nd hl
  unfold bindArgs
  simp only [PySem.W.fnOf, List.map_nil, List.nil_append, List.append_nil]
  have e0 : seqItems? Value.none = pure none := rfl
  have e1 : ¬ (us.length > (args.map fun x => x.arg).length ∧ (none : Option Arg).isNone = true) := by rw [hl]; omega
  have e2 : ((args.map fun x => x.arg).filter fun n => (List.lookup n ((args.map fun x => x.arg).zip us)).isNone) = [] := by
    rw [List.filter_eq_nil_iff]
    intro n hn hc
    obtain ⟨i, hi, e⟩ := List.mem_iff_getElem.mp hn
    have h2 : i < us.length := by omega
    have := zip_lookup (us := us) (i := i) (n := n) (u := us[i]) nd (by rw [List.getElem?_eq_getElem hi, e]) (List.getElem?_eq_getElem h2)
    rw [this] at hc
    cases hc
  simp only [List.forIn_nil, pure_bind, e0, Option.getD_none, List.isEmpty_nil, List.length_nil, Nat.zero_sub, List.drop_nil, Nat.sub_zero, List.take_length, e2, List.zip_nil_right, hk]
  have e3 : (decide (us.length > (args.map fun x => x.arg).length) && (none : Option Arg).isNone) = false := by
    rw [hl]; simp
  simp [e3, hl]

/-! ### a frame's start -/
def R.sl : R → Sl
  | .val d => .val d
  | .brw _ xs => .bor xs
  | .brwD _ kvs => .borD kvs
  | .stt => .stt
  | _ => .non
def startD (N : List Str) (as : List R) : List Sl := as.map R.sl ++ List.replicate (N.length - as.length) .non
def fnB (N ps : List Str) (sc : Scope) : Bool := sc.kind == .function && !sc.isCoroutine && !sc.isGenerator && decide N.Nodup && N.take ps.length == ps && ps.all (fun x => sc.names.lookup x == some .local || sc.names.lookup x == some .cell) && sc.names.all (fun y => y.2 != .free)
theorem fnB_ok {N ps : List Str} {sc : Scope} (h : fnB N ps sc = true) : FnScope N ps sc := by
  unfold fnB at h
  obtain ⟨h, h7⟩ := ba h
  obtain ⟨h, h6⟩ := ba h
  obtain ⟨h, h5⟩ := ba h
  obtain ⟨h, h4⟩ := ba h
  obtain ⟨h, h3⟩ := ba h
  obtain ⟨h1, h2⟩ := ba h
  refine ⟨eq_of_beq h1, nb h2, nb h3, of_decide_eq_true h4, eq_of_beq h5, fun x hx => ?_, fun y hy => ?_⟩
  · have := List.all_eq_true.mp h6 x hx
    rcases Bool.or_eq_true_iff.mp this with h | h
    · exact .inl (eq_of_beq h)
    · exact .inr (eq_of_beq h)
  · have := List.all_eq_true.mp h7 y hy
    simpa using this
section
variable {g : Gb} {C : Ct} {st : Option StA} {S H : Hp}
theorem ArgsR.length {ks : List Kd} {as : List R} {vs : List V} (h : ArgsR g st S H ks as vs) : vs.length = as.length := by
  induction h with
  | nil => rfl
  | cons a b ih => simp [ih]
theorem ArgsR.get {ks : List Kd} {as : List R} {vs : List V} (h : ArgsR g st S H ks as vs) : ∀ {i : Nat} {r : R}, as[i]? = some r → ∃ k v, vs[i]? = some v ∧ ArgR g st S H k r v := by
  induction h with
  | nil => intro i r e; simp at e
  | cons a b ih =>
    intro i r e
    cases i with
    | zero => simp at e; subst e; exact ⟨_, _, rfl, a⟩
    | succ i => simpa using ih (i := i) (by simpa using e)
theorem arg_sl {k : Kd} {r : R} {v : V} (h : ArgR g st S H k r v) : r.sl.mut = false ∧ ∃ l, SlOk g st H S H l (some (some v)) r.sl := by
  cases k <;> cases r <;> simp only [ArgR] at h
  · exact ⟨rfl, 0, v, rfl, h⟩
  · obtain ⟨_, l, vs, rfl, h2, h3, h4⟩ := h; exact ⟨rfl, l, vs, rfl, h2, by rw [h2]; simp, h3, h4⟩
  · obtain ⟨_, l, vs, rfl, h2, h3, h4⟩ := h; exact ⟨rfl, l, vs, rfl, h2, by rw [h2]; simp, h3, h4⟩
  · obtain ⟨t, e, rfl⟩ := h; exact ⟨rfl, 0, t, e, rfl⟩
  · exact ⟨rfl, 0, v, rfl, h⟩
  · obtain ⟨_, l, vs, rfl, h2, h3, h4⟩ := h; exact ⟨rfl, l, vs, rfl, h2, by rw [h2]; simp, h3, h4⟩
theorem env_start {N : List Str} {ks : List Kd} {as : List R} {vs : List V} (h : ArgsR g st S H ks as vs) : Dl.Env g st H S H (startD N as) (L2.start N vs) := by
  have hl := h.length
  have key : ∀ (i : Nat) (s : Sl), (startD N as)[i]? = some s → s.mut = false ∧ ∃ l, SlOk g st H S H l ((L2.start N vs : List (Option V))[i]?) s := by
    intro i s e
    unfold startD at e
    unfold L2.start
    by_cases hi : i < as.length
    · rw [List.getElem?_append_left (by simpa using hi), List.getElem?_map] at e
      cases q : as[i]? with
      | none => rw [q] at e; cases e
      | some r =>
        rw [q] at e
        cases e
        obtain ⟨k, v, e2, a⟩ := h.get q
        rw [List.getElem?_append_left (by rw [List.length_map, hl]; exact hi), List.getElem?_map, e2]
        exact arg_sl a
    · rw [List.getElem?_append_right (by simpa using hi), List.getElem?_replicate] at e
      split at e
      · cases e; exact ⟨rfl, 0, trivial⟩
      · cases e
  have all : ∀ i : Nat, ∃ l : Addr, ∀ s : Sl, (startD N as)[i]? = some s → SlOk g st H S H l ((L2.start N vs : List (Option V))[i]?) s := fun i => by
    cases q : (startD N as)[i]? with
    | none => exact ⟨0, fun s e => by cases e⟩
    | some s =>
      obtain ⟨_, l, h⟩ := key i s q
      exact ⟨l, fun s' e => by cases e; exact h⟩
  obtain ⟨L, hL⟩ := Classical.axiomOfChoice all
  refine ⟨by unfold startD L2.start; simp [hl], L, hL, fun i j s t ne e1 e2 m1 m2 => ?_⟩
  have := (key i s e1).1
  rw [this] at m1
  cases m1
theorem startD_mut {N : List Str} {as : List R} {i : Nat} {s : Sl} (e : (startD N as)[i]? = some s) : s.mut = false := by
  unfold startD at e
  by_cases hi : i < as.length
  · rw [List.getElem?_append_left (by simpa using hi), List.getElem?_map] at e
    cases q : as[i]? with
    | none => rw [q] at e; cases e
    | some r =>
      rw [q] at e
      cases e
      cases r <;> rfl
  · rw [List.getElem?_append_right (by simpa using hi), List.getElem?_replicate] at e
    split at e
    · cases e; rfl
    · cases e
theorem Env.cons {H0 : Hp} {s0 : Sl} {l0 : Addr} {u0 : Option V} {δ : List Sl} {σ : L2.St} (h : Dl.Env g st H0 S H δ σ) (h0 : SlOk g st H0 S H l0 (some u0) s0) (hd : ∀ (j : Nat) (t : Sl) (q : Addr), δ[j]? = some t → t.heapy = true → SlOk g st H0 S H q ((σ : List (Option V))[j]?) t → l0 ≠ q) :
    Dl.Env g st H0 S H (s0 :: δ) (u0 :: σ : List (Option V)) := by
  obtain ⟨hl, L, h1, h2⟩ := h
  refine ⟨by simp [hl], fun i => match i with | 0 => l0 | i + 1 => L i, fun i s e => ?_, fun i j s t ne e1 e2 m1 m2 => ?_⟩
  · cases i with
    | zero => simp at e; subst e; exact h0
    | succ i => simpa using h1 i s (by simpa using e)
  · have hy : ∀ {z : Sl}, z.mut = true → z.heapy = true := fun {z} m => by cases z <;> first | rfl | cases m
    cases i with
    | zero =>
      cases j with
      | zero => exact absurd rfl ne
      | succ j => exact hd j t (L j) (by simpa using e2) m2 (h1 j t (by simpa using e2))
    | succ i =>
      cases j with
      | zero => exact Ne.symm (hd i s (L i) (by simpa using e1) (hy m1) (h1 i s (by simpa using e1)))
      | succ j => exact h2 i j s t (by omega) (by simpa using e1) (by simpa using e2) m1 m2
/-! ### a def keeps its promise -/
variable {x qual : Str} {params : Arguments} {body : List Stmt} {scope : Scope} {f : Addr} {fd : FuncData} {n : Nat} {N : List Str} {ir : St} {fs : FS}
def pnm (p : Arguments) : List Str := p.args.map (·.arg)
theorem body_ok {vs : List V} {ps : List Str} {W : WD} {ex : XD → Prop} {S0 H0 : Hp} {cdv : Value} {A : Around} {outer : List PySem.Env} {s : Shared} {δ : List Sl} {EX : XK} {b : Nat} {gd : Bool}
    (hs : FnScope N ps scope) (hc : chkS C.free ⟨scope, N, fun _ => true, gd⟩ ir body = true) (ct : CtOk g C n) (hr : Room (n + 1) (A.deeper (envOfC qual scope s.heap.objs.size f cdv))) (hg : gd = true → A.guards = some [])
    (hb : costS C ir ≤ b) (lm : Lim (up st b))
    (hst : Dl.Env g st H0 S H δ (L2.start N vs)) (fr : Step st S0 H0 S H) (o0 : Ok st S0 H0) (w : wS C ir δ W ex) (hx : ∀ cls d H', XPost g (up st b) S0 H0 ex cls d H' → EX cls d H') :
    RunSs (cxOf (L2.CX g.P g.w) g.P g.w g.K g.mg g.base N qual scope f cdv A outer s H EX) body (EndsD g (up st b) S0 H0 S W) (L2.start N vs) H := by
  refine ((snd_st ir).2 (Γ := ⟨scope, N, fun _ => true, gd⟩) (sx := up st b) (ex := ex) hc ⟨ct, ⟨⟨rfl, rfl, rfl, rfl, rfl, hs.nd, rfl, hr⟩, rfl, rfl, fun _ _ => rfl, hg⟩, ?_, fr, hst, lm⟩ (passes_of rfl) hs.kind o0 ⟨b - costS C ir, by congr 1; omega⟩ w).mono (EndsD.upl hb)
  exact (takes_of (E := EX) rfl rfl rfl rfl).imp fun c d σ H' h => hx c d H' h
/-- what a def's text must do -/
def Keeps (C : Ct) (ir : St) (N : List Str) (ps : List Str) (fs : FS) : Prop := ∀ as P X, fs.sp as P X → as.length = ps.length ∧ wS C ir (startD N as) { nx := fun _ => P (.val .non), rt := P } X
theorem def_body {b : Nat} {gd : Bool} {cdv : Value} {A : Around} {outer : List PySem.Env} {s : Shared} {vs : List V} {Q : VK} {EX : XK} (hs : fnB N (pnm params) scope = true) (hc : chkS C.free ⟨scope, N, fun _ => true, gd⟩ ir body = true) (ct : CtOk g C n) (hb : costS C ir ≤ b)
    (hk : Keeps C ir N (pnm params) fs) (hr : Room (n + 1) (A.deeper (envOfC qual scope s.heap.objs.size f cdv))) (hg : gd = true → A.guards = some []) (h : spOf g fs b vs H Q EX) :
    ∃ t, PSs (cxOf (L2.CX g.P g.w) g.P g.w g.K g.mg g.base N qual scope f cdv A outer s H EX) body t ∧ t { nx := fun _ H' => Q .non H', rt := Q } (L2.start N vs) H := by
  obtain ⟨st, S, as, o, lm, a, w⟩ := h
  have h3 := body_ok (qual := qual) (f := f) (cdv := cdv) (A := A) (outer := outer) (s := s) (EX := EX) (fnB_ok hs) hc ct hr hg hb lm (env_start a) (Step.refl o) o (hk _ _ _ w).2 fun cls d H' ⟨x, S', s', r', q⟩ => q cls d H' S' s' r'
  refine ⟨RunSs _ body, pss_run, ?_⟩
  refine h3.mono ⟨?_, ?_, ?_, ?_⟩
  · rintro σ' H' ⟨S', δ', x', s', e', _, q⟩
    exact q .non H' S' s' (by simp only [RepR, Rep])
  · rintro v H' ⟨S', r, s', r', _, _, q⟩
    exact q v H' S' s' r'
  · rintro σ' H' ⟨S', δ', x', s', e', q⟩; exact q
  · rintro σ' H' ⟨S', δ', x', s', e', q⟩; exact q
theorem sp_len {b : Nat} {ps : List Str} {vs : List V} {Q : VK} {EX : XK} (hk : Keeps C ir N ps fs) (h : spOf g fs b vs H Q EX) : vs.length = ps.length := by
  obtain ⟨st, S, as, o, _, a, w⟩ := h
  rw [a.length, (hk _ _ _ w).1]
theorem def_ok {b : Nat} (F : FunD g.K x qual params body scope [] [] f fd) (hs : fnB N (pnm params) scope = true) (hc : chkS C.free ⟨scope, N, fun _ => true, false⟩ ir body = true) (ct : CtOk g C n) (hb : costS C ir ≤ b) (hk : Keeps C ir N (pnm params) fs) :
    FnOk g.P g.w g.K g.mg g.base (L2.CX g.P g.w) (n + 2) f fd (pnm params) (spOf g fs b) :=
  F.ok (fnB_ok hs) (fun vs H Q E h => sp_len hk h) fun cdv A outer s H vs Q E hr h => def_body hs hc ct hb hk hr (fun z => by cases z) h
theorem def_bind (F : FunD g.K x qual params body scope [] [] f fd) (pl : plainArgs params = true) (hs : fnB N (pnm params) scope = true) : Binds g.K fd (pnm params) [] :=
  F.bindsN fun kV doc pm an cdv ct us hl => bind_plain pl (by
    have S := fnB_ok hs
    rw [show (params.args.map (·.arg)) = pnm params from rfl, ← S.pre]
    exact S.nd.sublist (List.take_sublist _ _)) hl
theorem def_okR {b : Nat} (F : FunD g.K x qual params body scope [] [] f fd) (pl : plainArgs params = true) (hs : fnB N (pnm params) scope = true) (hc : chkS C.free ⟨scope, N, fun _ => true, false⟩ ir body = true) (ct : CtOk g C n) (hb : costS C ir ≤ b) (hk : Keeps C ir N (pnm params) fs) :
    FnR g.P g.w g.K g.mg g.base (L2.CX g.P g.w) (n + 2) f (spOf g fs b) :=
  ((def_ok F hs hc ct hb hk).raw (def_bind F pl hs) .nil).imp fun vs H Q E h => by rw [List.append_nil]; exact h
/-- a def by its body, where no repr is under way (HandS's fn_of, with the guards told) -/
theorem fn_ofG {k : Nat} {ps : List Str} {sp : Sp} (F : FunD g.K x qual params body scope [] [] f fd) (hb : Binds g.K fd ps []) (S : FnScope N ps scope) (len : ∀ vs H Q E, sp vs H Q E → vs.length = ps.length)
    (hbody : ∀ (cdv : Value) (A : Around) (outer : List PySem.Env) (s : Shared) (H : Hp) (vs : List V) (Q : VK) (E : XK), Room k (A.deeper (envOfC qual scope s.heap.objs.size f cdv)) → A.guards = some [] → sp vs H Q E →
      ∃ t, PSs (cxOf (L2.CX g.P g.w) g.P g.w g.K g.mg g.base N qual scope f cdv A outer s H E) body t ∧ t { nx := fun _ H' => Q .non H', rt := Q } (L2.start N vs) H) :
    FnG g.P g.w g.K g.mg g.base (L2.CX g.P g.w) (k + 1) f sp := by
  obtain ⟨oc, od, dV, kV, doc, pm, an, cdv, ct, osl, rfl, lk, hcd, _, _⟩ := F.ex
  intro A outer s H us vs Q E hr hg e0 r hsp
  have hl := len _ _ _ _ hsp
  have hlu : us.length = ps.length := by rw [← r.length]; exact hl
  have KX : g.K.In s.heap := e0.mod.kin.keeps fun b o e => (e0.bs b o e).1
  have lim : s.heap.NoLimit := e0.mod.nolimit.keeps fun b o e => (e0.bs b o e).1
  have hbs := hb s us KX (by rw [List.append_nil]; exact hlu)
  rw [List.append_nil] at hbs
  have hkind : ∀ y ∈ ps.zip us, scope.names.lookup y.1 = some .local ∨ (scope.names.lookup y.1 = some .cell ∧ ((cellsFrom (s.heap.objs.size + 1) scope.names []).lookup y.1).isSome = true) := fun ⟨n, v⟩ hy => by
    rcases S.par n (List.of_mem_zip hy).1 with q | q
    · exact .inl q
    · exact .inr ⟨q, PySem.W.cellsFrom_some _ _ _ (.inl q)⟩
  refine codeAny_call_function hr.depth (KX _ _ lk) rfl S.co S.gen rfl (PySem.W.codeRec_of KX hcd) (hbs _ _ _ _ ?_)
  refine wpAny_newFunctionEnv_cells S.kind hkind fun env he s1 x => ?_
  subst he
  refine ⟨lim.keeps x.toInCall.keep, codeAny_func ?_⟩
  obtain ⟨t, ht, hq⟩ := hbody cdv A outer s H vs Q E (hr.deeper _) hg hsp
  have I := inv_start (CX := L2.CX g.P g.w) (f := f) (cd := cdv) (E := E) S hr.hd e0 hl r x
  refine wpAny_mono (ht.run [] s1 (L2.start N vs) H _ I hq) (fun fl s' hs => ?_) fun e s' hs => hs
  have fin : ∀ {σ' : L2.St} {H' : Hp} {v : V} {u : Value}, Inv (cxOf (L2.CX g.P g.w) g.P g.w g.K g.mg g.base N qual scope f cdv A outer s H E) [] σ' H' s' → RelV v u → Q v H' → CE outer g.P g.w H s Q u s' :=
    fun {σ' H' v u} J rv q => ⟨v, H', J.os, J.bare, J.base, J.hok, rv, q⟩
  cases fl with
  | ret u =>
    obtain ⟨v, σ', H', J, rv, q⟩ := hs
    exact fin J rv q
  | next =>
    obtain ⟨σ', H', J, q⟩ := hs
    exact fin (v := V.non) (u := Value.none) J rfl q
  | brk =>
    obtain ⟨_, _, _, q⟩ := hs
    exact False.elim q
  | cont =>
    obtain ⟨_, _, _, q⟩ := hs
    exact False.elim q
theorem def_okG {b : Nat} (F : FunD g.K x qual params body scope [] [] f fd) (pl : plainArgs params = true) (hs : fnB N (pnm params) scope = true) (hc : chkS C.free ⟨scope, N, fun _ => true, true⟩ ir body = true) (ct : CtOk g C n) (hb : costS C ir ≤ b) (hk : Keeps C ir N (pnm params) fs) :
    FnG g.P g.w g.K g.mg g.base (L2.CX g.P g.w) (n + 2) f (spOf g fs b) :=
  fn_ofG F (def_bind F pl hs) (fnB_ok hs) (fun vs H Q E h => sp_len hk h) fun cdv A outer s H vs Q E hr hg h => def_body hs hc ct hb hk hr (fun _ => hg) h
/-- an __init__ -/
def KeepsI (C : Ct) (ir : St) (N : List Str) (ps : List Str) (c : Str) (fs : FS) : Prop :=
  ∀ as P X, fs.sp as P X → as.length + 1 = ps.length ∧ ∀ a d, wS C ir (.ownO a d c [] :: startD N.tail as) { nx := fun δ => ∃ fl, δ[0]? = some (.ownO a d c fl) ∧ P (.val (.obj c fl)), rt := fun _ => False } X
theorem ini_okN {c : Str} {b : Nat} (F : FunD g.K x qual params body scope [] [] f fd) (pl : plainArgs params = true) (hs : fnB N (pnm params) scope = true) (hc : chkS C.free ⟨scope, N, fun _ => true, false⟩ ir body = true) (ct : CtOk g C n) (hb : costS C ir ≤ b)
    (hk : KeepsI C ir N (pnm params) c fs) : FnOk g.P g.w g.K g.mg g.base (L2.CX g.P g.w) (n + 2) f fd (pnm params) (spIni g c fs b) := by
  refine F.ok (sp := spIni g c fs b) (fnB_ok hs) (fun vs H Q E h => ?_) fun cdv A outer s H vs Q E hr h => ?_
  · obtain ⟨st, S, Hp0, as, x, dx, ws, rfl, o, _, _, _, _, _, a, w⟩ := h
    rw [List.length_cons, a.length, (hk _ _ _ w).1]
  · obtain ⟨st, S, Hp0, as, x, dx, ws, rfl, o, lm, n1, n2, n3, rfl, a, w⟩ := h
    have sN := fnB_ok hs
    obtain ⟨hl, hw⟩ := hk _ _ _ w
    have hw := hw x dx
    cases N with
    | nil =>
      have := sN.pre
      simp only [List.take_nil] at this
      rw [← this] at hl
      cases hl
    | cons nm N' =>
      have s1 := Step.newOut (u := HO.own x) o n2
      have n1' : upd Hp0 dx (HO.own x) x = none := by rw [upd_ne (Ne.symm n3)]; exact n1
      have s2 := Step.newOut (u := HO.ins (g.cl c) dx []) s1.ok n1'
      have s12 := s1.trans s2
      have nst : ¬ isSt st x := Step.nst (Step.refl o) o n1
      have e0 : L2.start (nm :: N') (V.ref x :: ws) = some (.ref x) :: L2.start N' ws := by
        unfold L2.start; simp
      have env0 : Dl.Env g st Hp0 S (upd (upd Hp0 dx (.own x)) x (.ins (g.cl c) dx [])) (.ownO x dx c [] :: startD N' as) (L2.start (nm :: N') (V.ref x :: ws)) := by
        rw [e0]
        refine Env.cons ((env_start a).step o s12) (l0 := x) ⟨dx, [], rfl, upd_same, o.sub.none n1, n1, nst, by simp only [RepF], rfl, rfl⟩ fun j t q e1 e2 e3 => ?_
        have m := startD_mut e1
        cases t <;> first | (cases e2; done) | (cases m; done) | skip
        · obtain ⟨vs, _, _, h, _⟩ := e3
          exact fun z => h (by rw [← z]; exact n1)
        · obtain ⟨vs, _, _, h, _⟩ := e3
          exact fun z => h (by rw [← z]; exact n1)
      have h3 := body_ok (qual := qual) (f := f) (cdv := cdv) (A := A) (outer := outer) (s := s) (EX := E) sN hc ct hr (fun z => by cases z) hb lm env0 s12 o hw fun cls d H' ⟨x, S', s', r', q⟩ => q cls d H' S' s' r'
      refine ⟨RunSs _ body, pss_run, ?_⟩
      refine h3.mono ⟨?_, ?_, ?_, ?_⟩
      · rintro σ' H' ⟨S', δ', x', s', e', fl, q0, fs', hr', hP⟩
        obtain ⟨_, L, hL, _⟩ := e'
        obtain ⟨dx', gs, _, h2, h4, _, _, h6, h7, h8⟩ := hL 0 _ q0
        cases hr'
        rw [h7] at h2 h4
        subst h8
        exact hP gs H' S' s' h2 h4 h6
      · rintro v H' ⟨S', r, s', r', _, q⟩; exact q.elim
      · rintro σ' H' ⟨S', δ', x', s', e', q⟩; exact q
      · rintro σ' H' ⟨S', δ', x', s', e', q⟩; exact q
theorem ini_okR {c : Str} {b : Nat} (F : FunD g.K x qual params body scope [] [] f fd) (pl : plainArgs params = true) (hs : fnB N (pnm params) scope = true) (hc : chkS C.free ⟨scope, N, fun _ => true, false⟩ ir body = true) (ct : CtOk g C n) (hb : costS C ir ≤ b)
    (hk : KeepsI C ir N (pnm params) c fs) : FnR g.P g.w g.K g.mg g.base (L2.CX g.P g.w) (n + 2) f (spIni g c fs b) := by
  exact FnR.imp ((ini_okN F pl hs hc ct hb hk).raw (def_bind F pl hs) .nil) fun vs H Q E h => by rw [List.append_nil]; exact h

end
end Dl

set_option Elab.async false
set_option linter.all false
set_option maxRecDepth 100000
set_option maxHeartbeats 4000000
/-! Dl: the head's facts, the law's end. -/
namespace Dl
open PySem PySem.Spec PyProof.Rows L2
/-- the law's call at the head's heap, where no repr is under way (as HandS's law_call) -/
theorem law_callG {P : Program} {w : World} {K : PySem.W.Frag} {mg mb : Str → Option Value} {k : Nat} {fa a : Addr} {sp : Sp} {s₁ : Shared} {vs : List Value} {ns : List Int}
    (KX : K.In s₁.heap) (hns : s₁.heap.Ns mainGlobals mg) (hb : s₁.heap.Ns builtinsNs mb) (hbb : ∀ x : Str, x ≠ "__name__" → mb x = bootBuiltins x) (hlim : s₁.heap.NoLimit) (hg : s₁.gens = #[])
    (ha : s₁.heap.get? a = some { cls := .type "list", data := .seq vs.toArray }) (hi : IntsAre vs ns) (hl : ns.length ≤ sizeLine) (hr : Room k callerA)
    (F : ∀ base : Heap, K.In base → base.Ns mainGlobals mg → FnG P w K mg base (L2.CX P w) k fa sp)
    (hsp : ∀ H : Hp, Only H → SqL K H a (ns.map V.int) → sp [.ref a] H (fun v _ => v = .bl true) fun _ _ _ => False) :
    codeAny (model P w) callerA (.call (.ref fa) ⟨[.ref a], []⟩) (fun r s' => r = .ok (.ret (.bool true)) ∧ OldK s₁.heap s'.heap ∧ s'.os = s₁.os ∧ AllBare s'.gens) s₁ := by
  have rv := vals_ints hi
  have lenV := hi.length
  have core : ∀ H : Hp, Only H → SqL K H a (ns.map V.int) → HOk P w H s₁.heap → (∀ b, H b ≠ none → b = a) → (H a ≠ none → K.lookup a = none) →
      codeAny (model P w) callerA (.call (.ref fa) ⟨[.ref a], []⟩) (fun r s' => r = .ok (.ret (.bool true)) ∧ OldK s₁.heap s'.heap ∧ s'.os = s₁.os ∧ AllBare s'.gens) s₁ := by
    intro H hO hS hok hA hK
    have at_ : ∀ {b : Addr} {u : HO}, H b = some u → b = a := fun {b u} e => hA b (by rw [e]; simp)
    have free : ∀ {b : Addr} {o : Obj}, s₁.heap.get? b = some o → (∀ its n, o.data ≠ .seq its n) → H b = none := fun {b o} e d => by
      cases q : H b with
      | none => rfl
      | some u =>
        have z := at_ q
        subst z
        rw [ha] at e
        cases e
        exact absurd rfl (d _ _)
    have nsK : ∀ {b : Addr} {m : Str → Option Value}, s₁.heap.Ns b m → (hidT s₁.heap H).Ns b m := fun {b m} ⟨o, es, ep, e, d, r⟩ => ⟨o, es, ep, hidT_get e (free e fun _ _ z => by rw [d] at z; cases z), d, r⟩
    have hKb : K.In (hidT s₁.heap H) := fun b o e => hidT_get (KX b o e) (by
      cases q : H b with
      | none => rfl
      | some u =>
        have z := at_ q
        subst z
        rw [hK (by rw [q]; simp)] at e
        cases e)
    have hM : Mod K mg (hidT s₁.heap H) := ⟨hKb, nsK hns, ⟨mb, nsK hb, hbb⟩, let ⟨mc, h1, h2⟩ := hlim; ⟨mc, nsK h1, h2⟩⟩
    have e0 : Env0 P w K mg (hidT s₁.heap H) callerA [] s₁ H := ⟨rfl, hM, fun b o e => of_hidT e, Nat.le_of_eq (hidT_size _ _), trivial, fun b hb => absurd (show b ∈ ([] : List Addr) from hb) (by simp), hok, .of_eq hg⟩
    refine codeAny_mono (F _ hKb (nsK hns) callerA [] s₁ H [.ref a] [.ref a] _ _ hr rfl e0 (.cons rfl .nil) (hsp H hO hS)) fun r s' h => ?_
    cases r with
    | error e =>
      obtain ⟨_, _, _, _, _, _, _, _, _, _, _, _, hE⟩ := h
      exact hE.elim
    | ok fl =>
      cases fl with
      | ret u =>
        obtain ⟨v, H', os, bare, un, hok', r', q⟩ := h
        have q' : v = .bl true := q
        subst q'
        obtain rfl : u = Value.bool true := r'
        refine ⟨rfl, OldK.of_keep fun b o e => ?_, os, bare⟩
        cases q : H b with
        | none => exact un.keep b o e q (by intro z; exact absurd (show b ∈ ([] : List Addr) from z) (by simp)) (by simp)
        | some u =>
          rcases hO b with z | ⟨ob, xs, z⟩
          · rw [q] at z; cases z
          · obtain ⟨e1, _⟩ := hok b _ z
            obtain ⟨e2, _⟩ := hok' b _ (un.frzs b ob _ z)
            rw [e] at e1
            cases e1
            exact e2
      | _ => exact False.elim h
  cases hk : K.lookup a with
  | some o =>
    have e := KX a o hk
    rw [ha] at e
    cases e
    exact core (fun _ => none) (fun _ => .inl rfl) (.inr ⟨_, vs.toArray, _, hk, rfl, rfl, rfl, by rw [List.size_toArray, lenV]; exact hl, by simpa using rv⟩) (fun b u z => by have z' : (none : Option HO) = some u := z; cases z') (fun b z => absurd rfl z) fun z => absurd rfl z
  | none =>
    refine core (fun b => if b = a then some (.frz { cls := .type "list", data := .seq vs.toArray } (.lst (ns.map V.int))) else none) (fun b => ?_) (.inl (.inr ⟨{ cls := .type "list", data := .seq vs.toArray }, if_pos rfl⟩)) (fun b u z => ?_) (fun b z => ?_) fun _ => hk
    · by_cases hb : b = a
      · exact .inr ⟨_, _, if_pos hb⟩
      · exact .inl (if_neg hb)
    · by_cases hb : b = a
      · have z' := (if_pos hb).symm.trans z
        cases z'
        subst hb
        exact ⟨ha, by rw [List.length_map]; exact hl, vs, _, rv, ha⟩
      · have z' := (if_neg hb).symm.trans z
        cases z'
    · by_cases hb : b = a
      · exact hb
      · exact absurd (if_neg hb) z
theorem walk_ofG {l : PySem.W.OpenLaw} {n k : Nat} {q : Program} {loose : List Str} {XP : (Str → Option Value) → Heap → Prop} {YP : World → Heap → Prop} {d : DefRec}
    (hn : l.most = some n) (hn2 : n ≤ sizeLine) (hdf : d.params.defaults = []) (hr : Room k callerA)
    (F : ∀ (w : World) (mg : Str → Option Value) (fa : Addr) (h : Heap), YP w h → h.Ns mainGlobals mg → mg d.name = some (.ref fa) →
      ∃ (K : PySem.W.Frag) (sp : Sp), K.In h ∧
        (∀ (H : Hp) (a : Addr) (ns : List Int), ns.length ≤ n → Only H → SqL K H a (ns.map V.int) → sp [.ref a] H (fun v _ => v = .bl true) fun _ _ _ => False) ∧
        ∀ base : Heap, K.In base → base.Ns mainGlobals mg → FnG l.prog w K mg base (L2.CX l.prog w) k fa sp) :
    PySem.W.WalkO q loose XP YP l.row.toRowW d [] (fun f vs => PySem.call f vs) := by
  refine Att.attach_call hn hdf fun w s₀ s₁ mg mb fa o pm cd doc a vs ns G Y ho hd hcd hmg hobj hints hlen hg => ?_
  obtain ⟨K, sp, KX, hsp, hF⟩ := F w mg fa _ Y G.T.g hmg
  exact law_callG KX G.T.g G.T.b G.T.builtins G.T.nolimit hg hobj hints (Nat.le_trans hlen hn2) hr hF fun H hO hS => hsp H a ns hlen hO hS

/-! ### facts -/
/-- a getter of a property -/
def prA (K : PySem.W.Frag) (C : Addr) (f : Str) : Addr := match PySem.W.findIn K (.ref C) f with
  | some (some (.ref p)) => (match PySem.W.recIn K p "property" with
    | some (.ref g :: _) => g
    | _ => 0)
  | _ => 0
/-- where a def stands: a name, a class's method, a class's property -/
inductive Wh where | gl (x : Str) | me (c m : Str) | pr (c f : Str)
def Wh.ad (K : PySem.W.Frag) : Wh → Addr
  | .gl x => He.ga K x
  | .me c m => He.ma K (He.ga K c) m
  | .pr c f => prA K (He.ga K c) f
structure Df where
  at_ : Wh
  qual : Str
  st : Stmt
def Df.name (d : Df) : Str := match d.st with
  | .FunctionDef n _ _ _ _ _ _ _ _ _ => n
  | _ => ""
def dVal (d : Df) : He.FnW := some (d.name, d.qual, defArgs d.st, .stmts (defBody d.st), defScope d.st, mainGlobals, [], builtinsNs)
def dObs (K : PySem.W.Frag) (d : Df) : He.FnW := match K.lookup (d.at_.ad K) with
  | some ⟨_, _, .func fd, _⟩ => some (fd.name, fd.qualname, fd.params, fd.body, fd.scope, fd.globals, fd.closure, fd.builtins)
  | _ => none
def dOk (K : PySem.W.Frag) (d : Df) : Bool := PySem.W.keepIn K (.ref (d.at_.ad K)) && (match K.lookup (d.at_.ad K) with
  | some ⟨_, _, .func fd, _⟩ => PySem.W.codeIn K fd.code d.qual && He.dflB K fd.defaults []
  | _ => false)
abbrev FunDf (K : PySem.W.Frag) (d : Df) (fd : FuncData) : Prop := FunD K d.name d.qual (defArgs d.st) (defBody d.st) (defScope d.st) [] [] (d.at_.ad K) fd
theorem df_ok {K : PySem.W.Frag} {d : Df} (e : dObs K d = dVal d) (c : dOk K d = true) : ∃ fd, FunDf K d fd := by
  obtain ⟨kp, c2⟩ := ba c
  unfold dObs at e
  cases q : K.lookup (d.at_.ad K) with
  | none => rw [q] at c2; cases c2
  | some o =>
    obtain ⟨oc, od, dt, osl⟩ := o
    rw [q] at c2 e
    cases dt with
    | func fd =>
      obtain ⟨n1, n2, n3, n4, n5, n6, n7, n8, n9, n10, n11, n12, n13, n14, n15⟩ := fd
      have e2 : (some (n1, n2, n3, n4, n5, n6, n7, n15) : He.FnW) = some (d.name, d.qual, defArgs d.st, .stmts (defBody d.st), defScope d.st, mainGlobals, [], builtinsNs) := e
      simp only [Option.some.injEq, Prod.mk.injEq] at e2
      obtain ⟨h1, h2, h3, h4, h5, h6, h7, h8⟩ := e2
      have c3 : (PySem.W.codeIn K n13 d.qual && He.dflB K n8 []) = true := c2
      obtain ⟨k1, k2⟩ := ba c3
      subst h3 h4 h5 h6 h7 h8
      exact ⟨_, ⟨oc, od, n8, n9, n10, n11, n12, n13, n14, osl, by rw [← h1, ← h2], q, k1, He.dflB_ok k2, .inl rfl⟩, kp⟩
    | _ => cases c2
/-- facts of the written part -/
inductive Ft where
  | fa (f : He.Fa)
  | prp (c f : Str)
  | ins (c : Str)
  | isa (s t : Ty) (b : Bool)
  | own (c : Str)
def tyK (K : PySem.W.Frag) : Ty → Value
  | .b n => .type n
  | .c x => .ref (He.ga K x)
def Ft.ok (K : PySem.W.Frag) : Ft → Bool
  | .fa f => f.ok K
  | .prp c f => (match PySem.W.findIn K (.ref (He.ga K c)) f with
    | some (some (.ref p)) => decide (PySem.W.specialIn K (.ref p) "__get__" = some (some (.builtin "property.__get__"))) && (decide (PySem.W.takesIn K (.ref p) = some true) && (match PySem.W.recIn K p "property" with
      | some (.ref g :: _) => decide (g = prA K (He.ga K c) f)
      | _ => false))
    | _ => false)
  | .ins c => (He.Fa.cls c).ok K && (decide (PySem.W.findIn K (.ref (He.ga K c)) "__class__" = some (some (.builtin "object.__class__"))) && (decide (PySem.W.specialIn K (.builtin "object.__class__") "__get__" = some (some (.builtin "getset_descriptor.__get__"))) && (decide (PySem.W.takesIn K (.builtin "object.__class__") = some true) && decide (PySem.W.mroIn K (He.ga K c) (.type "object") = some true))))
  | .isa s t b => decide (PySem.W.kitOne K (tyK K s) (tyK K t) = some b)
  | .own c => PySem.W.selfFirst K (He.ga K c) && (decide (PySem.W.findIn K (.ref (He.ga K c)) "__ne__" = some (some (.builtin "object.__ne__"))) && decide (PySem.W.mroIn K (He.ga K c) (.type "object") = some true))
theorem prp_ok {K : PySem.W.Frag} {c f : Str} (h : (Ft.prp c f).ok K = true) : ∃ p, PropOf K (He.ga K c) f p (prA K (He.ga K c) f) := by
  simp only [Ft.ok] at h
  split at h
  · rename_i p e
    obtain ⟨h1, h2⟩ := ba h
    obtain ⟨h2, h3⟩ := ba h2
    split at h3
    · rename_i g rest e2
      have := of_decide_eq_true h3
      exact ⟨p, e, of_decide_eq_true h1, of_decide_eq_true h2, rest, by rw [e2, this]⟩
    · cases h3
  · cases h
theorem ins_ok {K : PySem.W.Frag} {c : Str} (h : (Ft.ins c).ok K = true) : InsOk K (He.ga K c) := by
  simp only [Ft.ok] at h
  obtain ⟨h1, h⟩ := ba h
  obtain ⟨h2, h⟩ := ba h
  obtain ⟨h3, h⟩ := ba h
  obtain ⟨h4, h5⟩ := ba h
  exact ⟨He.cls_ok h1, of_decide_eq_true h2, of_decide_eq_true h3, of_decide_eq_true h4, of_decide_eq_true h5⟩
theorem isa_ok {K : PySem.W.Frag} {s t : Ty} {b : Bool} (h : (Ft.isa s t b).ok K = true) : PySem.W.kitOne K (tyK K s) (tyK K t) = some b := of_decide_eq_true h
theorem own_ok {K : PySem.W.Frag} {c : Str} (h : (Ft.own c).ok K = true) : PySem.W.selfFirst K (He.ga K c) = true ∧ PySem.W.findIn K (.ref (He.ga K c)) "__ne__" = some (some (.builtin "object.__ne__")) ∧ PySem.W.mroIn K (He.ga K c) (.type "object") = some true := by
  simp only [Ft.ok] at h
  obtain ⟨h1, h⟩ := ba h
  obtain ⟨h2, h3⟩ := ba h
  exact ⟨h1, of_decide_eq_true h2, of_decide_eq_true h3⟩
/-! ### the hook -/
def obsX (fa : List Ft) (fn : List Df) (K : PySem.W.Frag) : He.AlD := ((fa.all fun f => f.ok K) && fn.all fun d => dOk K d, fn.map fun d => dObs K d)
def valX (fn : List Df) : He.AlD := (true, fn.map dVal)
def SaysX (fa : List Ft) (fn : List Df) (K : PySem.W.Frag) : Prop := obsX fa fn K = valX fn
def obsXG (n : Nat) (fa : List Ft) (fn : List Df) (g : Addr → Option Obj) : He.AlD := obsX fa fn (He.frG g (He.asD g n))
def hookX (n : Nat) (fa : List Ft) (fn : List Df) : PySem.W.Hook where
  α := He.AlD
  obs := fun s => obsXG n fa fn s.heap.get?
  val := fun _ => valX fn
  says := fun _ h => ∃ K : PySem.W.Frag, K.In h ∧ SaysX fa fn K
  of := fun _ _ e => ⟨_, He.frG_in, e⟩
  keeps := fun _ _ _ ⟨K, hK, c⟩ k => ⟨K, PySem.W.Frag.In.keeps hK k, c⟩
theorem obsXG_eq {n : Nat} {fa : List Ft} {fn : List Df} {g : Addr → Option Obj} {s : Shared} (h : ∀ a, g a = s.heap.get? a) : obsXG n fa fn g = (hookX n fa fn).obs s := by
  have e : g = s.heap.get? := funext h
  rw [e] <;> rfl
section
variable {fa : List Ft} {fn : List Df} {K : PySem.W.Frag}
theorem SaysX.fact (c : SaysX fa fn K) (i : Nat) {f : Ft} (h : fa[i]? = some f := by rfl) : f.ok K = true := by
  have c1 := (ba (show ((fa.all fun f => f.ok K) && fn.all fun d => dOk K d) = true from congrArg (fun z : He.AlD => z.1) c)).1
  exact List.all_eq_true.mp c1 f (List.mem_of_getElem? h)
theorem SaysX.mem (c : SaysX fa fn K) {f : Ft} (h : f ∈ fa) : f.ok K = true := by
  have c1 := (ba (show ((fa.all fun f => f.ok K) && fn.all fun d => dOk K d) = true from congrArg (fun z : He.AlD => z.1) c)).1
  exact List.all_eq_true.mp c1 f h
theorem SaysX.def_ (c : SaysX fa fn K) (i : Nat) {d : Df} (h : fn[i]? = some d := by rfl) : ∃ fd, FunDf K d fd := by
  have c2 := (ba (show ((fa.all fun f => f.ok K) && fn.all fun d => dOk K d) = true from congrArg (fun z : He.AlD => z.1) c)).2
  have e : fn.map (fun d => dObs K d) = fn.map dVal := congrArg (fun z : He.AlD => z.2) c
  have e2 : (fn.map fun d => dObs K d)[i]? = (fn.map dVal)[i]? := by rw [e]
  rw [List.getElem?_map, List.getElem?_map, h] at e2
  exact df_ok (Option.some.inj e2) (List.all_eq_true.mp c2 d (List.mem_of_getElem? h))
end
end Dl

set_option Elab.async false
set_option linter.all false
set_option maxRecDepth 100000
set_option maxHeartbeats 4000000
/-! Dl: a weaker wish. -/
namespace Dl
open PySem PySem.Spec PyProof.Rows L2
section
variable {C : Ct}
theorem wEq_mono {n : Bool} {a b : D} {P P' : R → Prop} (f : ∀ r, P r → P' r) (h : wEq n a b P) : wEq n a b P' := by
  unfold wEq at h ⊢
  split at h
  · exact f _ h
  · exact f _ h
  · exact f _ h
  · obtain ⟨p, q, h1, h2, h3, h4, h5⟩ := h
    exact ⟨p, q, h1, h2, h3, h4, f _ h5⟩
theorem wBin_mono {o : BinO} {a b : R} {P P' : R → Prop} (f : ∀ r, P r → P' r) (h : wBin o a b P) : wBin o a b P' := by
  unfold wBin at h ⊢
  split at h
  · exact f _ h
  · exact f _ h
  · exact ⟨h.1, f _ h.2⟩
  · exact ⟨h.1, f _ h.2⟩
  · exact ⟨h.1, f _ h.2⟩
  · exact ⟨h.1, f _ h.2⟩
  · exact ⟨h.1, f _ h.2⟩
  · exact ⟨h.1, f _ h.2⟩
  · exact ⟨h.1, h.2.1, h.2.2.1, f _ h.2.2.2⟩
  · exact h
theorem wRng_mono {rs : List R} {P P' : Bool → List D → Prop} (f : ∀ o xs, P o xs → P' o xs) (h : wRng rs P) : wRng rs P' := by
  unfold wRng at h ⊢
  split at h
  · exact ⟨h.1, f _ _ h.2⟩
  · exact ⟨h.1, f _ _ h.2⟩
  · exact h
theorem wCmp_mono {o : CmO} {a b : R} {P P' : R → Prop} (f : ∀ r, P r → P' r) (h : wCmp o a b P) : wCmp o a b P' := by
  unfold wCmp at h ⊢
  split at h
  · exact wEq_mono f h
  · exact wEq_mono f h
  · exact f _ h
  · exact f _ h
  · exact f _ h
  · exact f _ h
  · exact f _ h
  · exact f _ h
  · exact f _ h
  · exact f _ h
  · exact h
theorem ite_mono {p : Prop} [Decidable p] {a b a' b' : Prop} (h1 : a → a') (h2 : b → b') (h : if p then a else b) : if p then a' else b' := by
  by_cases e : p
  · rw [if_pos e] at h ⊢; exact h1 h
  · rw [if_neg e] at h ⊢; exact h2 h
theorem wBi_mono {b : String} {as : List R} {P P' : R → Prop} (f : ∀ r, P r → P' r) (h : wBi b as P) : wBi b as P' := by
  unfold wBi at h ⊢
  revert h
  refine ite_mono (fun h => ?_) (ite_mono (fun h => ?_) (ite_mono (fun h => ?_) (ite_mono (fun h => ?_) (ite_mono (fun h => ?_) (ite_mono (fun h => ?_) (ite_mono (fun h => ?_) fun h => h))))))
  · split at h
    · split at h
      · exact f _ h
      · exact h
    · exact h
  · split at h
    · exact f _ h
    · exact h
  · split at h
    · exact f _ h
    · split at h
      · split at h
        · exact ⟨h.1, fun m a b => f _ (h.2 m a b)⟩
        · exact h
      · exact h
    · exact h
  · split at h
    · exact f _ h
    · split at h
      · split at h
        · exact ⟨h.1, fun m a b => f _ (h.2 m a b)⟩
        · exact h
      · exact h
    · exact h
  · split at h
    · split at h
      · split at h
        · exact f _ h
        · exact h
      · exact h
    · exact h
  · split at h
    · split at h
      · split at h
        · exact f _ h
        · exact h
      · exact h
    · exact h
  · split at h
    · split at h
      · split at h
        · exact f _ h
        · exact h
      · exact h
    · exact h
theorem wTy_mono {b : String} {as : List R} {P P' : R → Prop} (f : ∀ r, P r → P' r) (h : wTy b as P) : wTy b as P' := by
  unfold wTy at h ⊢
  revert h
  refine ite_mono (fun h => ?_) (ite_mono (fun h => ?_) (ite_mono (fun h => ?_) fun h => h))
  · split at h
    · exact f _ h
    · exact f _ h
    · exact h
  · split at h
    · exact f _ h
    · split at h
      · exact f _ h
      · exact h
    · exact h
  · split at h
    · exact f _ h
    · split at h
      · exact f _ h
      · exact h
    · exact h
theorem wIdx_mono {a b : R} {P P' : R → Prop} (f : ∀ r, P r → P' r) (h : wIdx a b P) : wIdx a b P' := by
  unfold wIdx at h ⊢
  split at h
  · split at h
    · exact f _ h
    · exact h
  · refine ⟨h.1, ?_⟩
    have h := h.2
    split at h
    · exact f _ h
    · exact h
  · split at h
    · split at h
      · exact f _ h
      · exact h
    · exact h
  · exact h
theorem wSlc_mono {a : R} {lo hi : Option Int} {P P' : R → Prop} (f : ∀ r, P r → P' r) (h : wSlc a lo hi P) : wSlc a lo hi P' := by
  unfold wSlc at h ⊢
  split at h
  · exact ⟨h.1, f _ h.2⟩
  · exact f _ h
  · split at h
    · exact f _ h
    · exact h
theorem wOp1_mono {o : Op1} {r : R} {P P' : R → Prop} {X X' : XD → Prop} (f : ∀ r, P r → P' r) (x : ∀ r, X r → X' r) (h : wOp1 C o r P X) : wOp1 C o r P' X' := by
  unfold wOp1 at h ⊢
  split at h
  · refine ⟨h.1, ?_⟩
    have h := h.2
    split at h
    · exact wCall_mono (fun r h => ⟨h.1, f _ h.2⟩) x h
    · exact h
  · exact h
theorem wOp2_mono {o : Op2} {r t : R} {P P' : R → Prop} {X X' : XD → Prop} (f : ∀ r, P r → P' r) (x : ∀ r, X r → X' r) (h : wOp2 C o r t P X) : wOp2 C o r t P' X' := by
  unfold wOp2 at h ⊢
  split at h
  · refine ⟨h.1, h.2.1, ?_⟩
    have h := h.2.2
    split at h
    · exact wCall_mono (fun r h => ⟨h.1, f _ h.2⟩) x h
    · exact h
  · refine ⟨h.1, h.2.1, h.2.2.1, ?_⟩
    have h := h.2.2.2
    split at h
    · refine wCall_mono (fun r h => ?_) x h
      split at h
      · exact f _ h
      · exact h.elim
    · exact h
  · refine ⟨h.1, h.2.1, h.2.2.1, ?_⟩
    have h := h.2.2.2
    split at h
    · exact wCall_mono (fun r h => ⟨h.1, f _ h.2⟩) x h
    · exact h
  · refine ⟨h.1, ?_⟩
    have h := h.2
    split at h
    · exact wCall_mono (fun r h => ⟨h.1, f _ h.2⟩) x h
    · exact h
  · exact h
theorem wOpN_mono {o : OpN} {rs : List R} {P P' : R → Prop} {X X' : XD → Prop} (f : ∀ r, P r → P' r) (x : ∀ r, X r → X' r) (h : wOpN o rs P X) : wOpN o rs P' X' := by
  cases o; exact h
theorem walkD_mono {α : Type} {step : D → α → (α → Prop) → Prop} (hs : ∀ x a (k k' : α → Prop), (∀ a, k a → k' a) → step x a k → step x a k') : ∀ {xs : List D} {a : α} {P P' : α → Prop}, (∀ a, P a → P' a) → walkD step xs a P → walkD step xs a P'
  | [], a, P, P', f, h => f a h
  | x :: xs, a, P, P', f, h => hs x a _ _ (fun a' h' => walkD_mono hs f h') h
theorem wTg_mono {t : Tg} : ∀ {d : D} {δ : List Sl} {k k' : List Sl → Prop}, (∀ δ, k δ → k' δ) → wTg t d δ k → wTg t d δ k' := by
  induction t with
  | nm i => intro d δ k k' f h; exact f _ h
  | t2 a b iha ihb =>
    intro d δ k k' f h
    simp only [wTg] at h ⊢
    split at h
    · exact iha (fun δ h => ihb f h) h
    · exact h
  | t3 a b c iha ihb ihc =>
    intro d δ k k' f h
    simp only [wTg] at h ⊢
    split at h
    · exact iha (fun δ h => ihb (fun δ h => ihc f h) h) h
    · exact h
variable (C) in
structure Mo (ir : E) : Prop where
  e : ∀ {δ : List Sl} {P P' : R → Prop} {X X' : XD → Prop}, (∀ r, P r → P' r) → (∀ r, X r → X' r) → wE C ir δ P X → wE C ir δ P' X'
  es : ∀ {δ : List Sl} {P P' : List R → Prop} {X X' : XD → Prop}, (∀ r, P r → P' r) → (∀ r, X r → X' r) → wEs C ir δ P X → wEs C ir δ P' X'
  t : ∀ {δ : List Sl} {P P' : Bool → Prop} {X X' : XD → Prop}, (∀ r, P r → P' r) → (∀ r, X r → X' r) → wT C ir δ P X → wT C ir δ P' X'
  c : ∀ {δ : List Sl} {P P' : Bool → Prop} {X X' : XD → Prop}, (∀ r, P r → P' r) → (∀ r, X r → X' r) → wC C ir δ P X → wC C ir δ P' X'
  o : ∀ {δ : List Sl} {P P' : Option Int → Prop} {X X' : XD → Prop}, (∀ r, P r → P' r) → (∀ r, X r → X' r) → wO C ir δ P X → wO C ir δ P' X'
  i : ∀ {δ : List Sl} {P P' : Bool → List D → Prop} {X X' : XD → Prop}, (∀ o xs, P o xs → P' o xs) → (∀ r, X r → X' r) → wIt C ir δ P X → wIt C ir δ P' X'
theorem mo_all (ir : E) : Mo C ir := by
  induction ir with
  | var i =>
    refine ⟨?_, ?_, ?_, ?_, ?_, ?_⟩
    · intro δ P P' X X' f x h
      simp only [wE] at h ⊢
      split at h
      · exact f _ h
      · exact h
    · intro δ P P' X X' f x h; simp only [wEs] at h
    · intro δ P P' X X' f x h; simp only [wT] at h
    · intro δ P P' X X' f x h; simp only [wC] at h
    · intro δ P P' X X' f x h; simp only [wO] at h
    · intro δ P P' X X' f x h; simp only [wIt] at h
  | cst c =>
    refine ⟨?_, ?_, ?_, ?_, ?_, ?_⟩
    · intro δ P P' X X' f x h
      simp only [wE] at h ⊢
      exact f _ h
    · intro δ P P' X X' f x h; simp only [wEs] at h
    · intro δ P P' X X' f x h; simp only [wT] at h
    · intro δ P P' X X' f x h; simp only [wC] at h
    · intro δ P P' X X' f x h; simp only [wO] at h
    · intro δ P P' X X' f x h; simp only [wIt] at h
  | sgc i =>
    refine ⟨?_, ?_, ?_, ?_, ?_, ?_⟩
    · intro δ P P' X X' f x h
      simp only [wE] at h ⊢
      split at h
      · exact fun cs => f _ (h cs)
      · exact h
    · intro δ P P' X X' f x h; simp only [wEs] at h
    · intro δ P P' X X' f x h; simp only [wT] at h
    · intro δ P P' X X' f x h; simp only [wC] at h
    · intro δ P P' X X' f x h; simp only [wO] at h
    · intro δ P P' X X' f x h; simp only [wIt] at h
  | glc x =>
    refine ⟨?_, ?_, ?_, ?_, ?_, ?_⟩
    · intro δ P P' X X' f x h
      simp only [wE] at h ⊢
      split at h
      · exact f _ h
      · exact h
    · intro δ P P' X X' f x h; simp only [wEs] at h
    · intro δ P P' X X' f x h; simp only [wT] at h
    · intro δ P P' X X' f x h; simp only [wC] at h
    · intro δ P P' X X' f x h; simp only [wO] at h
    · intro δ P P' X X' f x h; simp only [wIt] at h
  | bin o a b ih_a ih_b =>
    refine ⟨?_, ?_, ?_, ?_, ?_, ?_⟩
    · intro δ P P' X X' f x h
      simp only [wE] at h ⊢
      exact ih_a.e (fun ra h => ih_b.e (fun rb h => wBin_mono f h) x h) x h
    · intro δ P P' X X' f x h; simp only [wEs] at h
    · intro δ P P' X X' f x h; simp only [wT] at h
    · intro δ P P' X X' f x h; simp only [wC] at h
    · intro δ P P' X X' f x h; simp only [wO] at h
    · intro δ P P' X X' f x h; simp only [wIt] at h
  | neg a ih_a =>
    refine ⟨?_, ?_, ?_, ?_, ?_, ?_⟩
    · intro δ P P' X X' f x h
      simp only [wE] at h ⊢
      refine ih_a.e (fun ra h => ?_) x h
      split at h
      · exact f _ h
      · exact h.elim
    · intro δ P P' X X' f x h; simp only [wEs] at h
    · intro δ P P' X X' f x h; simp only [wT] at h
    · intro δ P P' X X' f x h; simp only [wC] at h
    · intro δ P P' X X' f x h; simp only [wO] at h
    · intro δ P P' X X' f x h; simp only [wIt] at h
  | cmp o a b ih_a ih_b =>
    refine ⟨?_, ?_, ?_, ?_, ?_, ?_⟩
    · intro δ P P' X X' f x h
      simp only [wE] at h ⊢
      exact ih_a.e (fun ra h => ih_b.e (fun rb h => wCmp_mono f h) x h) x h
    · intro δ P P' X X' f x h; simp only [wEs] at h
    · intro δ P P' X X' f x h
      simp only [wT] at h ⊢
      refine ih_a.e (fun ra h => ih_b.e (fun rb h => wCmp_mono (fun r h => ?_) h) x h) x h
      split at h
      · exact f _ h
      · exact h.elim
    · intro δ P P' X X' f x h; simp only [wC] at h
    · intro δ P P' X X' f x h; simp only [wO] at h
    · intro δ P P' X X' f x h; simp only [wIt] at h
  | chn o p a b c ih_a ih_b ih_c =>
    refine ⟨?_, ?_, ?_, ?_, ?_, ?_⟩
    · intro δ P P' X X' f x h
      simp only [wE] at h ⊢
      refine ih_a.e (fun ra h => ih_b.e (fun rb h => wCmp_mono (fun r h => ?_) h) x h) x h
      split at h
      · exact ih_c.e (fun rc h => wCmp_mono f h) x h
      · exact f _ h
      · exact h.elim
    · intro δ P P' X X' f x h; simp only [wEs] at h
    · intro δ P P' X X' f x h
      simp only [wT] at h ⊢
      refine ih_a.e (fun ra h => ih_b.e (fun rb h => wCmp_mono (fun r h => ?_) h) x h) x h
      split at h
      · refine ih_c.e (fun rc h => wCmp_mono (fun r h => ?_) h) x h
        split at h
        · exact f _ h
        · exact h.elim
      · exact f _ h
      · exact h.elim
    · intro δ P P' X X' f x h; simp only [wC] at h
    · intro δ P P' X X' f x h; simp only [wO] at h
    · intro δ P P' X X' f x h; simp only [wIt] at h
  | and_ a b ih_a ih_b =>
    refine ⟨?_, ?_, ?_, ?_, ?_, ?_⟩
    · intro δ P P' X X' f x h
      simp only [wE] at h ⊢
      refine ih_a.e (fun r h => ?_) x h
      split at h
      · exact ih_b.e f x h
      · exact f _ h
      · exact h.elim
    · intro δ P P' X X' f x h; simp only [wEs] at h
    · intro δ P P' X X' f x h
      simp only [wT] at h ⊢
      refine ih_a.t (fun r h => ?_) x h
      cases r
      · exact f _ h
      · exact ih_b.t f x h
    · intro δ P P' X X' f x h; simp only [wC] at h
    · intro δ P P' X X' f x h; simp only [wO] at h
    · intro δ P P' X X' f x h; simp only [wIt] at h
  | or_ a b ih_a ih_b =>
    refine ⟨?_, ?_, ?_, ?_, ?_, ?_⟩
    · intro δ P P' X X' f x h
      simp only [wE] at h ⊢
      refine ih_a.e (fun r h => ?_) x h
      split at h
      · exact f _ h
      · exact ih_b.e f x h
      · exact h.elim
    · intro δ P P' X X' f x h; simp only [wEs] at h
    · intro δ P P' X X' f x h
      simp only [wT] at h ⊢
      refine ih_a.t (fun r h => ?_) x h
      cases r
      · exact ih_b.t f x h
      · exact f _ h
    · intro δ P P' X X' f x h; simp only [wC] at h
    · intro δ P P' X X' f x h; simp only [wO] at h
    · intro δ P P' X X' f x h; simp only [wIt] at h
  | not_ a ih_a =>
    refine ⟨?_, ?_, ?_, ?_, ?_, ?_⟩
    · intro δ P P' X X' f x h
      simp only [wE] at h ⊢
      refine ih_a.e (fun r h => ?_) x h
      split at h
      · exact f _ h
      · exact h.elim
    · intro δ P P' X X' f x h; simp only [wEs] at h
    · intro δ P P' X X' f x h
      simp only [wT] at h ⊢
      exact ih_a.t (fun r h => f _ h) x h
    · intro δ P P' X X' f x h; simp only [wC] at h
    · intro δ P P' X X' f x h; simp only [wO] at h
    · intro δ P P' X X' f x h; simp only [wIt] at h
  | ite c a b ih_c ih_a ih_b =>
    refine ⟨?_, ?_, ?_, ?_, ?_, ?_⟩
    · intro δ P P' X X' f x h
      simp only [wE] at h ⊢
      refine ih_c.t (fun r h => ?_) x h
      cases r
      · exact ih_b.e f x h
      · exact ih_a.e f x h
    · intro δ P P' X X' f x h; simp only [wEs] at h
    · intro δ P P' X X' f x h; simp only [wT] at h
    · intro δ P P' X X' f x h; simp only [wC] at h
    · intro δ P P' X X' f x h; simp only [wO] at h
    · intro δ P P' X X' f x h; simp only [wIt] at h
  | nil  =>
    refine ⟨?_, ?_, ?_, ?_, ?_, ?_⟩
    · intro δ P P' X X' f x h; simp only [wE] at h
    · intro δ P P' X X' f x h
      simp only [wEs] at h ⊢
      exact f _ h
    · intro δ P P' X X' f x h; simp only [wT] at h
    · intro δ P P' X X' f x h
      simp only [wC] at h ⊢
      exact f _ h
    · intro δ P P' X X' f x h
      simp only [wO] at h ⊢
      exact f _ h
    · intro δ P P' X X' f x h; simp only [wIt] at h
  | cons a es ih_a ih_es =>
    refine ⟨?_, ?_, ?_, ?_, ?_, ?_⟩
    · intro δ P P' X X' f x h; exact h.elim
    · intro δ P P' X X' f x h
      simp only [wEs] at h ⊢
      exact ih_a.e (fun r h => ih_es.es (fun rs h => f _ h) x h) x h
    · intro δ P P' X X' f x h; exact h.elim
    · intro δ P P' X X' f x h
      cases es <;> first | exact h.elim | exact ih_a.t f x h
    · intro δ P P' X X' f x h
      cases es <;> first | exact h.elim | skip
      simp only [wO] at h ⊢
      refine ih_a.e (fun r h => ?_) x h
      split at h
      · exact f _ h
      · exact h.elim
    · intro δ P P' X X' f x h; exact h.elim
  | tup es ih_es =>
    refine ⟨?_, ?_, ?_, ?_, ?_, ?_⟩
    · intro δ P P' X X' f x h
      simp only [wE] at h ⊢
      refine ih_es.es (fun r h => ?_) x h
      split at h
      · exact ⟨h.1, f _ h.2⟩
      · exact h.elim
    · intro δ P P' X X' f x h; simp only [wEs] at h
    · intro δ P P' X X' f x h; simp only [wT] at h
    · intro δ P P' X X' f x h; simp only [wC] at h
    · intro δ P P' X X' f x h; simp only [wO] at h
    · intro δ P P' X X' f x h; simp only [wIt] at h
  | lst es ih_es =>
    refine ⟨?_, ?_, ?_, ?_, ?_, ?_⟩
    · intro δ P P' X X' f x h
      simp only [wE] at h ⊢
      refine ih_es.es (fun r h => ?_) x h
      split at h
      · exact ⟨h.1, f _ h.2⟩
      · exact h.elim
    · intro δ P P' X X' f x h; simp only [wEs] at h
    · intro δ P P' X X' f x h; simp only [wT] at h
    · intro δ P P' X X' f x h; simp only [wC] at h
    · intro δ P P' X X' f x h; simp only [wO] at h
    · intro δ P P' X X' f x h; simp only [wIt] at h
  | idx a b ih_a ih_b =>
    refine ⟨?_, ?_, ?_, ?_, ?_, ?_⟩
    · intro δ P P' X X' f x h
      simp only [wE] at h ⊢
      exact ih_a.e (fun ra h => ih_b.e (fun rb h => wIdx_mono f h) x h) x h
    · intro δ P P' X X' f x h; simp only [wEs] at h
    · intro δ P P' X X' f x h; simp only [wT] at h
    · intro δ P P' X X' f x h; simp only [wC] at h
    · intro δ P P' X X' f x h; simp only [wO] at h
    · intro δ P P' X X' f x h; simp only [wIt] at h
  | slc a lo hi ih_a ih_lo ih_hi =>
    refine ⟨?_, ?_, ?_, ?_, ?_, ?_⟩
    · intro δ P P' X X' f x h
      simp only [wE] at h ⊢
      exact ih_a.e (fun ra h => ih_lo.o (fun l h => ih_hi.o (fun u h => wSlc_mono f h) x h) x h) x h
    · intro δ P P' X X' f x h; simp only [wEs] at h
    · intro δ P P' X X' f x h; simp only [wT] at h
    · intro δ P P' X X' f x h; simp only [wC] at h
    · intro δ P P' X X' f x h; simp only [wO] at h
    · intro δ P P' X X' f x h; simp only [wIt] at h
  | call q es ih_es =>
    refine ⟨?_, ?_, ?_, ?_, ?_, ?_⟩
    · intro δ P P' X X' f x h
      simp only [wE] at h ⊢
      split at h
      · exact ih_es.es (fun r h => wCall_mono (fun r h => ⟨h.1, f _ h.2⟩) x h) x h
      · exact h
    · intro δ P P' X X' f x h; simp only [wEs] at h
    · intro δ P P' X X' f x h; simp only [wT] at h
    · intro δ P P' X X' f x h; simp only [wC] at h
    · intro δ P P' X X' f x h; simp only [wO] at h
    · intro δ P P' X X' f x h; simp only [wIt] at h
  | callG q es ih_es =>
    refine ⟨?_, ?_, ?_, ?_, ?_, ?_⟩
    · intro δ P P' X X' f x h
      simp only [wE] at h ⊢
      split at h
      · exact ih_es.es (fun r h => wCall_mono (fun r h => ⟨h.1, f _ h.2⟩) x h) x h
      · exact h
    · intro δ P P' X X' f x h; simp only [wEs] at h
    · intro δ P P' X X' f x h; simp only [wT] at h
    · intro δ P P' X X' f x h; simp only [wC] at h
    · intro δ P P' X X' f x h; simp only [wO] at h
    · intro δ P P' X X' f x h; simp only [wIt] at h
  | mk c es ih_es =>
    refine ⟨?_, ?_, ?_, ?_, ?_, ?_⟩
    · intro δ P P' X X' f x h
      simp only [wE] at h ⊢
      split at h
      · refine ih_es.es (fun r h => wCall_mono (fun r h => ?_) x h) x h
        split at h
        · exact ⟨h.1, f _ h.2⟩
        · exact h.elim
      · exact h
    · intro δ P P' X X' f x h; simp only [wEs] at h
    · intro δ P P' X X' f x h; simp only [wT] at h
    · intro δ P P' X X' f x h; simp only [wC] at h
    · intro δ P P' X X' f x h; simp only [wO] at h
    · intro δ P P' X X' f x h; simp only [wIt] at h
  | mkV c v es ih_es =>
    refine ⟨?_, ?_, ?_, ?_, ?_, ?_⟩
    · intro δ P P' X X' f x h
      simp only [wE] at h ⊢
      split at h
      · refine ih_es.es (fun r h => wCall_mono (fun r h => ?_) x h) x h
        split at h
        · exact ⟨h.1, f _ h.2⟩
        · exact h.elim
      · exact h
    · intro δ P P' X X' f x h; simp only [wEs] at h
    · intro δ P P' X X' f x h; simp only [wT] at h
    · intro δ P P' X X' f x h; simp only [wC] at h
    · intro δ P P' X X' f x h; simp only [wO] at h
    · intro δ P P' X X' f x h; simp only [wIt] at h
  | mkK c ks es ih_es =>
    refine ⟨?_, ?_, ?_, ?_, ?_, ?_⟩
    · intro δ P P' X X' f x h
      simp only [wE] at h ⊢
      split at h
      · refine ih_es.es (fun r h => wCall_mono (fun r h => ?_) x h) x h
        split at h
        · exact ⟨h.1, f _ h.2⟩
        · exact h.elim
      · exact h
    · intro δ P P' X X' f x h; simp only [wEs] at h
    · intro δ P P' X X' f x h; simp only [wT] at h
    · intro δ P P' X X' f x h; simp only [wC] at h
    · intro δ P P' X X' f x h; simp only [wO] at h
    · intro δ P P' X X' f x h; simp only [wIt] at h
  | op1 o a ih_a =>
    refine ⟨?_, ?_, ?_, ?_, ?_, ?_⟩
    · intro δ P P' X X' f x h
      simp only [wE] at h ⊢
      exact ih_a.e (fun r h => wOp1_mono f x h) x h
    · intro δ P P' X X' f x h; simp only [wEs] at h
    · intro δ P P' X X' f x h; simp only [wT] at h
    · intro δ P P' X X' f x h; simp only [wC] at h
    · intro δ P P' X X' f x h; simp only [wO] at h
    · intro δ P P' X X' f x h; simp only [wIt] at h
  | op2 o a b ih_a ih_b =>
    refine ⟨?_, ?_, ?_, ?_, ?_, ?_⟩
    · intro δ P P' X X' f x h
      simp only [wE] at h ⊢
      exact ih_a.e (fun r h => ih_b.e (fun t h => wOp2_mono f x h) x h) x h
    · intro δ P P' X X' f x h; simp only [wEs] at h
    · intro δ P P' X X' f x h
      simp only [wT] at h ⊢
      exact ih_a.e (fun r h => ih_b.e (fun t h => wOp2_mono (fun r h => by split at h <;> first | exact f _ h | exact h.elim) x h) x h) x h
    · intro δ P P' X X' f x h; simp only [wC] at h
    · intro δ P P' X X' f x h; simp only [wO] at h
    · intro δ P P' X X' f x h; simp only [wIt] at h
  | opn o es ih_es =>
    refine ⟨?_, ?_, ?_, ?_, ?_, ?_⟩
    · intro δ P P' X X' f x h
      simp only [wE] at h ⊢
      exact ih_es.es (fun r h => wOpN_mono f x h) x h
    · intro δ P P' X X' f x h; simp only [wEs] at h
    · intro δ P P' X X' f x h; simp only [wT] at h
    · intro δ P P' X X' f x h; simp only [wC] at h
    · intro δ P P' X X' f x h; simp only [wO] at h
    · intro δ P P' X X' f x h; simp only [wIt] at h
  | meth c m o es ih_o ih_es =>
    refine ⟨?_, ?_, ?_, ?_, ?_, ?_⟩
    · intro δ P P' X X' f x h
      simp only [wE] at h ⊢
      split at h
      · refine ih_o.e (fun r h => ?_) x h
        split at h
        · exact ⟨h.1, h.2.1, ih_es.es (fun r h => wCall_mono (fun r h => ⟨h.1, f _ h.2⟩) x h) x h.2.2⟩
        · exact h.elim
      · exact h
    · intro δ P P' X X' f x h; simp only [wEs] at h
    · intro δ P P' X X' f x h; simp only [wT] at h
    · intro δ P P' X X' f x h; simp only [wC] at h
    · intro δ P P' X X' f x h; simp only [wO] at h
    · intro δ P P' X X' f x h; simp only [wIt] at h
  | attr o q ih_o =>
    refine ⟨?_, ?_, ?_, ?_, ?_, ?_⟩
    · intro δ P P' X X' f x h
      simp only [wE] at h ⊢
      refine ih_o.e (fun r h => ?_) x h
      split at h
      · refine ⟨h.1, ?_⟩
        have h := h.2
        split at h
        · exact f _ h
        · exact h.elim
      · exact h.elim
    · intro δ P P' X X' f x h; simp only [wEs] at h
    · intro δ P P' X X' f x h; simp only [wT] at h
    · intro δ P P' X X' f x h; simp only [wC] at h
    · intro δ P P' X X' f x h; simp only [wO] at h
    · intro δ P P' X X' f x h; simp only [wIt] at h
  | prp c q o ih_o =>
    refine ⟨?_, ?_, ?_, ?_, ?_, ?_⟩
    · intro δ P P' X X' f x h
      simp only [wE] at h ⊢
      split at h
      · refine ih_o.e (fun r h => ?_) x h
        split at h
        · exact ⟨h.1, wCall_mono (fun r h => ⟨h.1, f _ h.2⟩) (fun _ z => z) h.2⟩
        · exact h.elim
      · exact h
    · intro δ P P' X X' f x h; simp only [wEs] at h
    · intro δ P P' X X' f x h; simp only [wT] at h
    · intro δ P P' X X' f x h; simp only [wC] at h
    · intro δ P P' X X' f x h; simp only [wO] at h
    · intro δ P P' X X' f x h; simp only [wIt] at h
  | bi b es ih_es =>
    refine ⟨?_, ?_, ?_, ?_, ?_, ?_⟩
    · intro δ P P' X X' f x h
      simp only [wE] at h ⊢
      exact ih_es.es (fun r h => wBi_mono f h) x h
    · intro δ P P' X X' f x h; simp only [wEs] at h
    · intro δ P P' X X' f x h; simp only [wT] at h
    · intro δ P P' X X' f x h; simp only [wC] at h
    · intro δ P P' X X' f x h; simp only [wO] at h
    · intro δ P P' X X' f x h; simp only [wIt] at h
  | ty b es ih_es =>
    refine ⟨?_, ?_, ?_, ?_, ?_, ?_⟩
    · intro δ P P' X X' f x h
      simp only [wE] at h ⊢
      exact ih_es.es (fun r h => wTy_mono f h) x h
    · intro δ P P' X X' f x h; simp only [wEs] at h
    · intro δ P P' X X' f x h; simp only [wT] at h
    · intro δ P P' X X' f x h; simp only [wC] at h
    · intro δ P P' X X' f x h; simp only [wO] at h
    · intro δ P P' X X' f x h; simp only [wIt] at h
  | isi a ts ih_a =>
    refine ⟨?_, ?_, ?_, ?_, ?_, ?_⟩
    · intro δ P P' X X' f x h
      simp only [wE] at h ⊢
      refine ⟨h.1, ih_a.e (fun r h => ?_) x h.2⟩
      split at h
      · refine ⟨h.1, ?_⟩
        have h := h.2
        split at h
        · exact f _ h
        · exact h.elim
      · exact h.elim
    · intro δ P P' X X' f x h; simp only [wEs] at h
    · intro δ P P' X X' f x h; simp only [wT] at h
    · intro δ P P' X X' f x h; simp only [wC] at h
    · intro δ P P' X X' f x h; simp only [wO] at h
    · intro δ P P' X X' f x h; simp only [wIt] at h
  | comp elt t it cond own m ih_elt ih_it ih_cond =>
    refine ⟨?_, ?_, ?_, ?_, ?_, ?_⟩
    · intro δ P P' X X' f x h
      simp only [wE] at h ⊢
      refine ih_it.i (fun o xs h => ⟨h.1, h.2.1, walkD_mono ?_ (fun a h => f _ h) h.2.2⟩) x h
      intro y acc k k' fk h
      refine wTg_mono (fun δ h => ih_cond.c (fun b h => ?_) (fun _ z => z) h) h
      cases b
      · exact fk _ h
      · refine ih_elt.e (fun r h => ?_) (fun _ z => z) h
        split at h
        · exact fk _ h
        · exact h.elim
    · intro δ P P' X X' f x h; simp only [wEs] at h
    · intro δ P P' X X' f x h; simp only [wT] at h
    · intro δ P P' X X' f x h; simp only [wC] at h
    · intro δ P P' X X' f x h; simp only [wO] at h
    · intro δ P P' X X' f x h; simp only [wIt] at h
  | rpr a ih_a =>
    refine ⟨?_, ?_, ?_, ?_, ?_, ?_⟩
    · intro δ P P' X X' f x h
      simp only [wE] at h ⊢
      refine ih_a.e (fun r h => ?_) x h
      split at h
      · split at h
        · exact ⟨h.1, f _ h.2⟩
        · exact h.elim
      · exact h.elim
    · intro δ P P' X X' f x h; simp only [wEs] at h
    · intro δ P P' X X' f x h; simp only [wT] at h
    · intro δ P P' X X' f x h; simp only [wC] at h
    · intro δ P P' X X' f x h; simp only [wO] at h
    · intro δ P P' X X' f x h; simp only [wIt] at h
  | tr a ih_a =>
    refine ⟨?_, ?_, ?_, ?_, ?_, ?_⟩
    · intro δ P P' X X' f x h; simp only [wE] at h
    · intro δ P P' X X' f x h; simp only [wEs] at h
    · intro δ P P' X X' f x h
      simp only [wT] at h ⊢
      refine ih_a.e (fun r h => ?_) x h
      split at h
      · exact f _ h
      · exact h.elim
    · intro δ P P' X X' f x h; simp only [wC] at h
    · intro δ P P' X X' f x h; simp only [wO] at h
    · intro δ P P' X X' f x h; simp only [wIt] at h
  | itV a ih_a =>
    refine ⟨?_, ?_, ?_, ?_, ?_, ?_⟩
    · intro δ P P' X X' f x h; simp only [wE] at h
    · intro δ P P' X X' f x h; simp only [wEs] at h
    · intro δ P P' X X' f x h; simp only [wT] at h
    · intro δ P P' X X' f x h; simp only [wC] at h
    · intro δ P P' X X' f x h; simp only [wO] at h
    · intro δ P P' X X' f x h
      simp only [wIt] at h ⊢
      refine ih_a.e (fun r h => ?_) x h
      split at h
      · exact f _ _ h
      · exact h.elim
  | itRng es ih_es =>
    refine ⟨?_, ?_, ?_, ?_, ?_, ?_⟩
    · intro δ P P' X X' f x h; simp only [wE] at h
    · intro δ P P' X X' f x h; simp only [wEs] at h
    · intro δ P P' X X' f x h; simp only [wT] at h
    · intro δ P P' X X' f x h; simp only [wC] at h
    · intro δ P P' X X' f x h; simp only [wO] at h
    · intro δ P P' X X' f x h
      simp only [wIt] at h ⊢
      refine ih_es.es (fun r h => ?_) x h
      exact wRng_mono f h
  | itEnum a ih_a =>
    refine ⟨?_, ?_, ?_, ?_, ?_, ?_⟩
    · intro δ P P' X X' f x h; simp only [wE] at h
    · intro δ P P' X X' f x h; simp only [wEs] at h
    · intro δ P P' X X' f x h; simp only [wT] at h
    · intro δ P P' X X' f x h; simp only [wC] at h
    · intro δ P P' X X' f x h; simp only [wO] at h
    · intro δ P P' X X' f x h
      simp only [wIt] at h ⊢
      refine ih_a.e (fun r h => ?_) x h
      split at h
      · exact f _ _ h
      · exact f _ _ h
      · split at h
        · exact f _ _ h
        · exact h.elim
  | itZip a b ih_a ih_b =>
    refine ⟨?_, ?_, ?_, ?_, ?_, ?_⟩
    · intro δ P P' X X' f x h; simp only [wE] at h
    · intro δ P P' X X' f x h; simp only [wEs] at h
    · intro δ P P' X X' f x h; simp only [wT] at h
    · intro δ P P' X X' f x h; simp only [wC] at h
    · intro δ P P' X X' f x h; simp only [wO] at h
    · intro δ P P' X X' f x h
      simp only [wIt] at h ⊢
      refine ih_a.e (fun ra h => ih_b.e (fun rb h => ?_) x h) x h
      split at h
      · exact f _ _ h
      · exact f _ _ h
      · exact h.elim
  | itZipN a b ih_a ih_b =>
    refine ⟨?_, ?_, ?_, ?_, ?_, ?_⟩
    · intro δ P P' X X' f x h; simp only [wE] at h
    · intro δ P P' X X' f x h; simp only [wEs] at h
    · intro δ P P' X X' f x h; simp only [wT] at h
    · intro δ P P' X X' f x h; simp only [wC] at h
    · intro δ P P' X X' f x h; simp only [wO] at h
    · intro δ P P' X X' f x h
      simp only [wIt] at h ⊢
      refine ih_a.e (fun ra h => ih_b.e (fun rb h => ?_) x h) x h
      split at h
      · exact f _ _ h
      · exact h.elim
  | itRev a ih_a =>
    refine ⟨?_, ?_, ?_, ?_, ?_, ?_⟩
    · intro δ P P' X X' f x h; simp only [wE] at h
    · intro δ P P' X X' f x h; simp only [wEs] at h
    · intro δ P P' X X' f x h; simp only [wT] at h
    · intro δ P P' X X' f x h; simp only [wC] at h
    · intro δ P P' X X' f x h; simp only [wO] at h
    · intro δ P P' X X' f x h
      simp only [wIt] at h ⊢
      refine ih_a.e (fun r h => ?_) x h
      split at h
      · exact f _ _ h
      · split at h
        · exact f _ _ h
        · exact h.elim
end
end Dl

set_option Elab.async false
set_option linter.all false
set_option maxRecDepth 100000
set_option maxHeartbeats 4000000
/-! Dl: statements under a weaker wish; loops by an invariant. -/
namespace Dl
open PySem PySem.Spec PyProof.Rows L2
structure WDle (W W' : WD) : Prop where
  nx : ∀ δ, W.nx δ → W'.nx δ
  rt : ∀ r, W.rt r → W'.rt r
  bk : ∀ δ, W.bk δ → W'.bk δ
  ct : ∀ δ, W.ct δ → W'.ct δ
section
variable {C : Ct}
theorem wNm_mono {i : Nat} {r : R} {δ : List Sl} {k k' : List Sl → Prop} (f : ∀ δ, k δ → k' δ) (h : wNm i r δ k) : wNm i r δ k' := by
  unfold wNm at h ⊢
  split at h
  · exact f _ h
  · exact f _ h
  · exact f _ h
  · exact f _ h
  · exact h
theorem wAsg_mono {t : Tg} {r : R} {δ : List Sl} {k k' : List Sl → Prop} (f : ∀ δ, k δ → k' δ) (h : wAsg t r δ k) : wAsg t r δ k' := by
  unfold wAsg at h ⊢
  split at h
  · exact wNm_mono f h
  · exact wTg_mono f h
  · exact h
theorem forD_mono {turn : D → List Sl → WD → Prop} (ht : ∀ x δ W W', WDle W W' → turn x δ W → turn x δ W') {W W' : WD} (l : WDle W W') : ∀ {xs : List D} {δ : List Sl}, forD turn W xs δ → forD turn W' xs δ
  | [], δ, h => l.nx _ h
  | x :: xs, δ, h => ht x δ { nx := forD turn W xs, rt := W.rt, bk := W.nx, ct := forD turn W xs } { nx := forD turn W' xs, rt := W'.rt, bk := W'.nx, ct := forD turn W' xs } ⟨fun δ h => forD_mono ht l h, l.rt, l.nx, fun δ h => forD_mono ht l h⟩ h
theorem forD_x {turn turn' : D → List Sl → WD → Prop} (ht : ∀ x δ W, turn x δ W → turn' x δ W) (hm : ∀ x δ W W', WDle W W' → turn' x δ W → turn' x δ W') {W : WD} : ∀ {xs : List D} {δ : List Sl}, forD turn W xs δ → forD turn' W xs δ
  | [], δ, h => h
  | x :: xs, δ, h => hm x δ { nx := forD turn W xs, rt := W.rt, bk := W.nx, ct := forD turn W xs } { nx := forD turn' W xs, rt := W.rt, bk := W.nx, ct := forD turn' W xs } ⟨fun δ h => forD_x ht hm h, fun _ z => z, fun _ z => z, fun δ h => forD_x ht hm h⟩ (ht _ _ _ h)
/-- a loop by an invariant over what is left -/
theorem forD_of {turn : D → List Sl → WD → Prop} {W : WD} (I : List D → List Sl → Prop) (hd : ∀ δ, I [] δ → W.nx δ) (hs : ∀ x xs δ (k : List Sl → Prop), I (x :: xs) δ → (∀ δ', I xs δ' → k δ') → turn x δ { nx := k, rt := W.rt, bk := W.nx, ct := k }) : ∀ {xs : List D} {δ : List Sl}, I xs δ → forD turn W xs δ
  | [], δ, h => hd δ h
  | x :: xs, δ, h => hs x xs δ _ h fun δ' h' => forD_of I hd hs h'
/-- a comprehension's walk -/
theorem walkD_of {α : Type} {step : D → α → (α → Prop) → Prop} {P : α → Prop} (I : List D → α → Prop) (hd : ∀ a, I [] a → P a) (hs : ∀ x xs a (k : α → Prop), I (x :: xs) a → (∀ a', I xs a' → k a') → step x a k) : ∀ {xs : List D} {a : α}, I xs a → walkD step xs a P
  | [], a, h => hd a h
  | x :: xs, a, h => hs x xs a _ h fun a' h' => walkD_of I hd hs h'
theorem wS_mono {ir : St} : ∀ {δ : List Sl} {W W' : WD} {X X' : XD → Prop}, WDle W W' → (∀ x, X x → X' x) → wS C ir δ W X → wS C ir δ W' X' := by
  induction ir with
  | skip => intro δ W W' X X' l x h; exact l.nx _ h
  | nop => intro δ W W' X X' l x h; exact l.nx _ h
  | seq a b iha ihb => intro δ W W' X X' l x h; exact iha (W := { nx := fun δ' => wS C b δ' W X, rt := W.rt, bk := W.bk, ct := W.ct }) (W' := { nx := fun δ' => wS C b δ' W' X', rt := W'.rt, bk := W'.bk, ct := W'.ct }) ⟨fun δ h => ihb l x h, l.rt, l.bk, l.ct⟩ x h
  | asg t e => intro δ W W' X X' l x h; exact (mo_all e).e (fun r h => wAsg_mono l.nx h) x h
  | par i j a b => intro δ W W' X X' l x h; exact (mo_all a).e (fun r h => (mo_all b).e (fun r h => wNm_mono (fun δ h => wNm_mono l.nx h) h) x h) x h
  | par3 i j k a b c => intro δ W W' X X' l x h; exact (mo_all a).e (fun r h => (mo_all b).e (fun r h => (mo_all c).e (fun r h => wNm_mono (fun δ h => wNm_mono (fun δ h => wNm_mono l.nx h) h) h) x h) x h) x h
  | asgO i f e =>
    intro δ W W' X X' l x h
    simp only [wS] at h ⊢
    split at h
    · refine (mo_all e).e (fun r h => ?_) x h
      split at h
      · exact ⟨h.1, h.2.1, h.2.2.1, l.nx _ h.2.2.2⟩
      · exact h.elim
    · exact h
  | app i e =>
    intro δ W W' X X' l x h
    simp only [wS] at h ⊢
    split at h
    · refine (mo_all e).e (fun r h => ?_) x h
      split at h
      · exact ⟨h.1, l.nx _ h.2⟩
      · exact h.elim
    · exact h
  | drop e => intro δ W W' X X' l x h; exact (mo_all e).e (fun r h => l.nx _ h) x h
  | frz i => intro δ W W' X X' l x h; exact l.nx _ h
  | ret e => intro δ W W' X X' l x h; exact (mo_all e).e (fun r h => ⟨h.1, l.rt _ h.2⟩) x h
  | retV i =>
    intro δ W W' X X' l x h
    simp only [wS] at h ⊢
    split at h
    · exact l.rt _ h
    · exact l.rt _ h
    · exact l.rt _ h
    · exact h
  | retN => intro δ W W' X X' l x h; exact l.rt _ h
  | ifs c a b iha ihb =>
    intro δ W W' X X' l x h
    refine (mo_all c).t (fun t h => ?_) x h
    cases t
    · exact ihb l x h
    · exact iha l x h
  | for_ t it m b ihb =>
    intro δ W W' X X' l x h
    refine (mo_all it).i (fun o xs h => ⟨h.1, h.2.1, ?_⟩) x h
    refine forD_mono (turn := fun x δ W' => wTg t x δ fun δ' => wS C b δ' W' X') (fun y δ W W' l' h => wTg_mono (fun δ h => ihb l' (fun _ z => z) h) h) l ?_
    exact forD_x (turn := fun x δ W' => wTg t x δ fun δ' => wS C b δ' W' X) (turn' := fun x δ W' => wTg t x δ fun δ' => wS C b δ' W' X') (fun y δ W h => wTg_mono (fun δ h => ihb ⟨fun _ z => z, fun _ z => z, fun _ z => z, fun _ z => z⟩ x h) h) (fun y δ W W' l' h => wTg_mono (fun δ h => ihb l' (fun _ z => z) h) h) h.2.2
  | whl mm c b ihb =>
    intro δ W W' X X' l x h
    simp only [wS] at h ⊢
    obtain ⟨inv, i0, hi⟩ := h
    refine ⟨inv, i0, fun m δ h => (mo_all c).t (fun t h => ?_) x (hi m δ h)⟩
    cases t
    · exact l.nx _ h
    · exact ihb (W := { nx := fun δ' => ∃ m', m' < m ∧ inv m' δ', rt := W.rt, bk := W.nx, ct := fun δ' => ∃ m', m' < m ∧ inv m' δ' }) ⟨fun _ z => z, l.rt, l.nx, fun _ z => z⟩ x h
  | popApp i j e =>
    intro δ W W' X X' l x h
    simp only [wS] at h ⊢
    refine ⟨h.1, ?_⟩
    have h := h.2
    split at h
    · refine (mo_all e).e (fun r h => ?_) x h
      split at h
      · exact ⟨h.1, h.2.1, h.2.2.1, h.2.2.2.1, fun d e => l.nx _ (h.2.2.2.2 d e)⟩
      · exact h.elim
    · exact h
  | clr i =>
    intro δ W W' X X' l x h
    simp only [wS] at h ⊢
    split at h
    · exact l.nx _ h
    · exact h
  | brk => intro δ W W' X X' l x h; exact l.bk _ h
  | cont => intro δ W W' X X' l x h; exact l.ct _ h
  | never => intro δ W W' X X' l x h; exact h
end
end Dl

set_option Elab.async false
set_option linter.all false
set_option maxRecDepth 100000
set_option maxHeartbeats 4000000
/-! Dl: the draws, in plain data. -/
namespace Dl
open PySem PySem.Spec PyProof.Rows L2
abbrev eI (i : Int) : E := .cst (.int i)
abbrev eS (s : Str) : E := .cst (.str s)
abbrev es1 (a : E) : E := .cons a .nil
abbrev es2 (a b : E) : E := .cons a (.cons b .nil)
def irMixB : St := .seq (.asg (.nm 4) (.bin .add (.bin .mul (eI 69621) (.var 1)) (.bin .fdiv (.var 3) (eI 41))))
  (.seq (.for_ (.nm 5) (.itV (.sgc 0)) 0 (.seq (.asg (.nm 4) (.bin .mod (.ty "int" (es1 (.bin .add (.bin .add (.bin .mul (.var 4) (eI 48271)) (.var 5)) (.var 1)))) (.var 3))) .skip))
  (.seq (.asg (.nm 2) (.bin .add (.bin .mul (.var 2) (eI 2147483659)) (.bin .mod (.ty "int" (es1 (.bin .pow (.var 4) (eI 5)))) (.var 3)))) .skip))
def irMix (p q r s : Int) : St := .seq (.for_ (.nm 3) (.itV (.lst (.cons (eI p) (.cons (eI q) (.cons (eI r) (.cons (eI s) .nil)))))) 0 irMixB) (.seq (.retV 2) .skip)
section
variable {C : Ct}
theorem mixB_ok {turn p f : Int} {b c : Sl} {W : WD} {X : XD → Prop} (h1 : 0 ≤ turn) (h2 : turn ≤ 2 ^ 41) (h3 : 2 ^ 30 < p) (h4 : p < 2 ^ 31) (hn : ∀ f' b' c', W.nx [.stt, .val (.int turn), .val (.int f'), .val (.int p), b', c']) :
    wS C irMixB [.stt, .val (.int turn), .val (.int f), .val (.int p), b, c] W X := by
  simp only [irMixB, wS, wE, wIt, wEs, wTg, readSl, List.getElem?_cons_zero, List.getElem?_cons_succ, wBin, R.see, Cst.d, wAsg, wNm, List.set_cons_zero, List.set_cons_succ, itOf, costS, costE, wTy, String.reduceEq, if_true]
  refine ⟨.inl ⟨by omega, by omega⟩, ⟨by omega, by omega⟩, fun cs => ?_⟩
  refine ⟨trivial, fun z => absurd z (by simp), ?_⟩
  have hp : 0 < p := by omega
  refine forD_of (fun xs δ => ∃ (ns : List Int) (b : Int) (c : Sl), xs = ns.map D.int ∧ -(2 ^ 60) < b ∧ b < 2 ^ 60 ∧ δ = [.stt, .val (.int turn), .val (.int f), .val (.int p), .val (.int b), c]) ?_ ?_ ⟨cs, _, _, rfl, ?_, ?_, rfl⟩
  · rintro δ ⟨ns, b, c, _, hb1, hb2, rfl⟩
    simp
    refine ⟨.inr ⟨by omega, by omega⟩, ⟨by omega, by omega, by omega⟩, by omega, hn _ _ _⟩
  · rintro x xs δ k ⟨ns, b, c, e, hb1, hb2, rfl⟩ hk
    cases ns with
    | nil => cases e
    | cons n ns =>
      simp only [List.map_cons, List.cons.injEq] at e
      obtain ⟨rfl, e⟩ := e
      simp
      refine ⟨.inr ⟨by omega, by omega⟩, by omega, hk _ ⟨ns, _, _, e, ?_, ?_, rfl⟩⟩
      · have := Int.fmod_nonneg_of_pos (b * 48271 + n + turn) hp
        omega
      · have := Int.fmod_lt_of_pos (b * 48271 + n + turn) hp
        omega
  · have h : 0 ≤ p.fdiv 41 := Int.fdiv_nonneg (by omega) (by omega)
    omega
  · have h : p.fdiv 41 ≤ p := by
      rw [Int.fdiv_eq_ediv_of_nonneg _ (by omega)]
      omega
    omega
theorem mix_ok {turn p q r s : Int} {W : WD} {X : XD → Prop} (h1 : 0 ≤ turn) (h2 : turn ≤ 2 ^ 41) (hp : 2 ^ 30 < p ∧ p < 2 ^ 31) (hq : 2 ^ 30 < q ∧ q < 2 ^ 31) (hr : 2 ^ 30 < r ∧ r < 2 ^ 31) (hs : 2 ^ 30 < s ∧ s < 2 ^ 31) (hn : ∀ m, W.rt (.val (.int m))) :
    wS C (irMix p q r s) [.stt, .val (.int turn), .val (.int 0), .non, .non, .non] W X := by
  have hz : (4 : Nat) ≤ sizeLine := by rw [sizeLine_eq]; decide
  have z0 : ¬ (0 < costS C irMixB) := by simp [irMixB, costS, costE]
  simp only [irMix, wS, wE, wIt, wEs, wTg, Cst.d, List.map_cons, List.map_nil, asAll, R.as, R.dat, List.filterMap_cons, List.filterMap_nil, List.length_cons, List.length_nil, itOf]
  refine ⟨hz, trivial, fun z => absurd z z0, ?_⟩
  refine forD_of (fun xs δ => ∃ (ns : List Int) (f : Int) (a b c : Sl), xs = ns.map D.int ∧ (∀ n ∈ ns, 2 ^ 30 < n ∧ n < 2 ^ 31) ∧ δ = [.stt, .val (.int turn), .val (.int f), a, b, c]) ?_ ?_ ⟨[p, q, r, s], 0, .non, .non, .non, rfl, by simp; omega, rfl⟩
  · rintro δ ⟨ns, f, a, b, c, _, _, rfl⟩
    exact hn f
  · rintro x xs δ k ⟨ns, f, a, b, c, e, hb, rfl⟩ hk
    cases ns with
    | nil => cases e
    | cons n ns =>
      simp only [List.map_cons, List.cons.injEq] at e
      obtain ⟨rfl, e⟩ := e
      have := hb n (by simp)
      exact mixB_ok h1 h2 this.1 this.2 fun f' b' c' => hk _ ⟨ns, f', _, _, _, e, fun m hm => hb m (by simp [hm]), rfl⟩
end
end Dl

set_option Elab.async false
set_option linter.all false
set_option maxRecDepth 100000
set_option maxHeartbeats 4000000
/-! Dl: _law_mixed, _law_draw. -/
namespace Dl
open PySem PySem.Spec PyProof.Rows L2
/-! ### forms -/
def nmB (Γ : Sc) (i : Nat) (x : Str) : Bool := Γ.N[i]? == some x && visB Γ.sc x && noDbg x && !(x == ("__classdict__" : Str))
def stAt : Expr → Option (Str × Str)
  | .Subscript (.Name a _) (.Constant (.str k) _ _) _ => some (a, k)
  | _ => none
def putOf : Stmt → Option (Str × Str × Expr)
  | .Assign [.Subscript (.Name a _) (.Constant (.str k) _ _) _] v _ => some (a, k, v)
  | _ => none
def addOne : Expr → Option Expr
  | .BinOp e .Add (.Constant (.int n) _ _) _ => if n = 1 then some e else none
  | _ => none
def intOf : Expr → Option Int
  | .Constant (.int n) _ _ => some n
  | _ => none
theorem stAt_ok {e : Expr} {a k : Str} (h : stAt e = some (a, k)) : ∃ p1 j p2 p3, e = .Subscript (.Name a p1) (.Constant (.str k) j p2) p3 := by
  unfold stAt at h
  split at h
  · cases h; exact ⟨_, _, _, _, rfl⟩
  · cases h
theorem putOf_ok {s : Stmt} {a k : Str} {v : Expr} (h : putOf s = some (a, k, v)) : ∃ p1 j p2 p3 p4, s = .Assign [.Subscript (.Name a p1) (.Constant (.str k) j p2) p3] v p4 := by
  unfold putOf at h
  split at h
  · cases h; exact ⟨_, _, _, _, _, rfl⟩
  · cases h
theorem addOne_ok {e v : Expr} (h : addOne e = some v) : ∃ j p1 p2, e = .BinOp v .Add (.Constant (.int 1) j p1) p2 := by
  unfold addOne at h
  split at h
  · split at h
    · rename_i n hn; subst hn; cases h; exact ⟨_, _, _, rfl⟩
    · cases h
  · cases h
theorem intOf_ok {e : Expr} {n : Int} (h : intOf e = some n) : ∃ j p, e = .Constant (.int n) j p := by
  unfold intOf at h
  split at h
  · cases h; exact ⟨_, _, rfl⟩
  · cases h
section
variable {g : Gb} {C : Ct} {Γ : Sc} {k : Nat} {X : Cx} {st sx : Option StA} {S0 H0 S H S1 H1 H' : Hp} {σ : L2.St} {δ : List Sl} {ex : XD → Prop} {P : R → Prop} {v x y : V}
theorem nm_pe {i : Nat} {x : Str} {p : Pos} (cx : CxG g Γ k X) (h : nmB Γ i x = true) : PE X (.Name x p) (tVar i) := by
  unfold nmB at h
  obtain ⟨h, h1⟩ := ba h
  obtain ⟨h, h2⟩ := ba h
  obtain ⟨h4, h3⟩ := ba h
  exact var_pe cx h4 h3 h2 h1
theorem stat_pe {i : Nat} {e : Expr} {a kk : Str} (cx : CxG g Γ k X) (h : stAt e = some (a, kk)) (hn : nmB Γ i a = true) : PE X e (tDGet (tVar i) (tC (.str kk))) := by
  obtain ⟨p1, j, p2, p3, rfl⟩ := stAt_ok h
  exact pe_dget (by have := cx.ok.room.units; omega) (nm_pe cx hn) pe_str fun _ _ => rfl
theorem cxg_of {N ps : List Str} {qual : Str} {scope : Scope} {f : Addr} {cdv : Value} {A : Around} {outer : List PySem.Env} {s : Shared} {EX : XK} {gd : Bool} {n : Nat} (hs : FnScope N ps scope) (hr : Room (n + 1) (A.deeper (envOfC qual scope s.heap.objs.size f cdv))) (hg : gd = true → A.guards = some []) :
    CxG g ⟨scope, N, fun _ => true, gd⟩ n (cxOf (L2.CX g.P g.w) g.P g.w g.K g.mg g.base N qual scope f cdv A outer s H EX) :=
  ⟨⟨rfl, rfl, rfl, rfl, rfl, hs.nd, rfl, hr⟩, rfl, rfl, fun _ _ => rfl, hg⟩
/-- the rest of a body, from anywhere within -/
theorem rest_ok {N ps : List Str} {qual : Str} {scope : Scope} {f : Addr} {cdv : Value} {A : Around} {outer : List PySem.Env} {s : Shared} {EX : XK} {gd : Bool} {n : Nat} {Hs : Hp} {ir : St} {body : List Stmt} {W : WD}
    (hs : FnScope N ps scope) (hr : Room (n + 1) (A.deeper (envOfC qual scope s.heap.objs.size f cdv))) (hg : gd = true → A.guards = some []) (hc : chkS C.free ⟨scope, N, fun _ => true, gd⟩ ir body = true) (ct : CtOk g C n) (lm : Lim sx) (ft : Fit st sx (costS C ir))
    (hst : Dl.Env g st H0 S H δ σ) (fr : Step st S0 H0 S H) (o0 : Ok st S0 H0) (w : wS C ir δ W ex) (hx : ∀ cls d H', XPost g sx S0 H0 ex cls d H' → EX cls d H') :
    RunSs (cxOf (L2.CX g.P g.w) g.P g.w g.K g.mg g.base N qual scope f cdv A outer s Hs EX) body (EndsD g (up st (costS C ir)) S0 H0 S W) σ H :=
  (snd_st ir).2 (Γ := ⟨scope, N, fun _ => true, gd⟩) hc ⟨ct, cxg_of hs hr hg, (takes_of (E := EX) rfl rfl rfl rfl).imp fun c d σ H' h => hx c d H' h, fr, hst, lm⟩ (passes_of rfl) hs.kind o0 ft w
/-! ### the state goes on -/
theorem kv_turn {t : StA} {r n : Int} : valV (stKvs t r n) (.inr "turn") = some (.int n) := by rfl
theorem kv_rest {t : StA} {r n : Int} : valV (stKvs t r n) (.inr "rest") = some (.int r) := by rfl
theorem kv_great {t : StA} {r n : Int} : valV (stKvs t r n) (.inr "great") = some (.ref t.g) := by rfl
theorem put_turn {t : StA} {r n m : Int} : putK (stKvs t r n) (.inr "turn") (.int m) = stKvs t r m := by rfl
theorem put_rest {t : StA} {r n m : Int} : putK (stKvs t r n) (.inr "rest") (.int m) = stKvs t m n := by rfl
theorem st_put {t : StA} {c : Nat} {S H : Hp} {gs cs : List Int} {r : Int} {n : Nat} (o : Ok (some t) S H) (hn : n ≤ t.lim + c) (h2 : H t.g = some (.lst (gs.map V.int))) (h3 : S t.c = some (.lst (cs.map V.int))) (h4 : S t.a = none) (h5 : S t.g = none) (hne : t.a ≠ t.g) :
    Step (up (some t) c) S H S (upd H t.a (.dK (stKvs t r n))) := by
  refine ⟨Ex.refl S, fun l u e => ?_, fun l u e n2 k2 => ⟨?_, n2⟩, ⟨gs, cs, r, ⟨n, Nat.lt_succ_of_le hn⟩, upd_same, ?_, h3, h4, h5⟩⟩
  · have : l ≠ t.a := fun z => by rw [z, h4] at e; cases e
    rw [upd_ne this]
    exact o.sub l u e
  · have : l ≠ t.a := fun z => k2 (.inl z)
    rw [upd_ne this]
    exact e
  · rw [show (({ t with lim := t.lim + c } : StA).g) = t.g from rfl, upd_ne (Ne.symm hne)]
    exact h2
/-! ### _law_mixed -/
def fsMixed : FS where
  ks := [.s]
  sp as P _ := as = [.stt] ∧ ∀ m : Int, P (.val (.int m))
  mono := fun as P P' X X' f x h => ⟨h.1, fun m => f _ (h.2 m)⟩
def mixN : List Str := ["state", "turn", "found", "prime", "blend", "cell"]
def chkMix1 (Γ : Sc) (s : Stmt) : Bool := match parOf s with
  | some ((x, px), (y, py), v, w) => lclB Γ 1 x && lclB Γ 2 y && x != y && px.line == py.line && nonStar v && nonStar w && !([v, w].all (foldedForSure 8)) && !([v, w].all (constantsAlone 8)) && intOf w == some 0 && (match addOne v with
    | some e => (match stAt e with
      | some (a, k) => nmB Γ 0 a && k == "turn"
      | none => false)
    | none => false)
  | none => false
def chkMix2 (Γ : Sc) (s : Stmt) : Bool := match putOf s with
  | some (a, k, .Name t p) => nmB Γ 0 a && k == "turn" && nmB Γ 1 t
  | _ => false
def chkMix (free : Str → Bool) (sc : Scope) (p q r z : Int) (body : List Stmt) : Bool := match body with
  | s1 :: s2 :: rest => chkMix1 ⟨sc, mixN, fun _ => true, false⟩ s1 && chkMix2 ⟨sc, mixN, fun _ => true, false⟩ s2 && chkS free ⟨sc, mixN, fun _ => true, false⟩ (irMix p q r z) rest
  | _ => false
variable {qual nx : Str} {params : Arguments} {body : List Stmt} {scope : Scope} {f : Addr} {fd : FuncData} {n : Nat}
theorem mixed_okR {p q r z : Int} (F : FunD g.K nx qual params body scope [] [] f fd) (pl : plainArgs params = true) (hs : fnB mixN (pnm params) scope = true) (hp1 : (pnm params).length = 1) (hc : chkMix C.free scope p q r z body = true) (ct : CtOk g C n)
    (hp : 2 ^ 30 < p ∧ p < 2 ^ 31) (hq : 2 ^ 30 < q ∧ q < 2 ^ 31) (hr' : 2 ^ 30 < r ∧ r < 2 ^ 31) (hz : 2 ^ 30 < z ∧ z < 2 ^ 31) :
    FnR g.P g.w g.K g.mg g.base (L2.CX g.P g.w) (n + 2) f (spOf g fsMixed 1) := by
  refine FnR.imp ((F.ok (sp := spOf g fsMixed 1) (fnB_ok hs) (fun vs H Q E h => ?_) fun cdv A outer s H vs Q E hr h => ?_).raw (def_bind F pl hs) .nil) fun vs H Q E h => by rw [List.append_nil]; exact h
  · obtain ⟨st, S, as, o, lm, a, w, _⟩ := h
    subst w
    rw [a.length, hp1]
    rfl
  · obtain ⟨st, S, as, o, lm, a, w, hw⟩ := h
    subst w
    have sN := fnB_ok hs
    have env0 := env_start (N := mixN) a
    cases a with
    | cons a b =>
      cases b
      rename_i v
      obtain ⟨t, e1, e2⟩ := a
      subst e1 e2
      unfold chkMix at hc
      split at hc
      · rename_i s1 s2 rest
        obtain ⟨hc, c3⟩ := ba hc
        obtain ⟨c1, c2⟩ := ba hc
        have cx := cxg_of (g := g) (cdv := cdv) (f := f) (qual := qual) (A := A) (outer := outer) (s := s) (H := H) (EX := E) (gd := false) sN hr (fun z => by cases z)
        unfold chkMix1 at c1
        split at c1
        · rename_i x px y py v1 w1 hpar
          obtain ⟨kk, pp, k2, p2, p3, es1⟩ := parOf_ok hpar
          subst es1
          obtain ⟨c1, d10⟩ := ba c1
          obtain ⟨c1, d9⟩ := ba c1
          obtain ⟨c1, d8⟩ := ba c1
          obtain ⟨c1, d7⟩ := ba c1
          obtain ⟨c1, d6⟩ := ba c1
          obtain ⟨c1, d5⟩ := ba c1
          obtain ⟨c1, d4⟩ := ba c1
          obtain ⟨c1, d3⟩ := ba c1
          obtain ⟨d1, d2⟩ := ba c1
          split at d10
          · rename_i e0 ha0
            split at d10
            · rename_i sa sk hst
              obtain ⟨d11, d12⟩ := ba d10
              have d12 := eq_of_beq d12
              subst d12
              obtain ⟨j1, q1, q2, rfl⟩ := addOne_ok ha0
              obtain ⟨j2, q3, rfl⟩ := intOf_ok (eq_of_beq d9)
              unfold chkMix2 at c2
              split at c2
              · rename_i sa2 sk2 tn tp hput
                obtain ⟨c2, d15⟩ := ba c2
                obtain ⟨d13, d14⟩ := ba c2
                have d14 := eq_of_beq d14
                subst d14
                obtain ⟨q4, j3, q5, q6, q7, rfl⟩ := putOf_ok hput
                obtain ⟨gs, cs, r0, tn0, k1, k2', k3, k4, k5⟩ := o.st
                have hne : t.a ≠ t.g := fun z => by rw [z, k2'] at k1; cases k1
                obtain ⟨n1, l1⟩ := lclB_ok cx d1
                obtain ⟨n2, l2⟩ := lclB_ok cx d2
                refine ⟨_, pss_cons (ps_par rfl sN.nd n1 n2 (by decide) l1 l2 (pa_cons (pe_op op_add (stat_pe cx hst d11) pe_int) (pa_cons pe_int pa_nil (starEach_cons d6)) (starEach_cons d5)) (par_sw sN.kind l1 l2 (ne_str d3) d4 d5 d6 (nb d7) (nb d8)) rfl)
                  (pss_cons (ps_dput (by have := hr.units; show (A.deeper _).units + 1 < _; omega) (nm_pe cx d13) pe_str (nm_pe cx d15) rfl) pss_run), ?_⟩
                have e00 : (L2.start mixN [V.ref t.a] : List (Option V)) = [some (.ref t.a), none, none, none, none, none] := rfl
                refine ⟨.ref t.a, rfl, t.a, .int ((tn0 : Nat) : Int), rfl, DGet.k (k := .inr "turn") k1, ((tn0 : Nat) : Int), 1, rfl, rfl, _, _, rfl, ?_⟩
                refine ⟨.int (((tn0 : Nat) : Int) + 1), rfl, .ref t.a, rfl, t.a, _, rfl, DPut.k (k := .inr "turn") k1 ?_, ?_⟩
                · show 4 < sizeLine
                  rw [sizeLine_eq]; decide
                have hcast : (((tn0 : Nat) : Int) + 1) = ((tn0 + 1 : Nat) : Int) := by omega
                have sp := st_put (c := 1) (n := tn0 + 1) (r := r0) o (by have := tn0.2; omega) k2' k3 k4 k5 hne
                have hput2 : putK (stKvs t r0 ((tn0 : Nat) : Int)) (.inr "turn") (.int (((tn0 : Nat) : Int) + 1)) = stKvs t r0 ((tn0 + 1 : Nat) : Int) := by rw [hcast]; rfl
                rw [hput2]
                have lim1 : t.lim + 1 ≤ LIM := lm
                have lim2 : LIM = 2 ^ 40 := rfl
                have env1 := (((env0.stp o sp).set_val (i := 1) (d := .int (((tn0 : Nat) : Int) + 1)) (v := .int (((tn0 : Nat) : Int) + 1)) (by simp only [Rep])).set_val (i := 2) (d := .int 0) (v := .int 0) (by simp only [Rep]))
                have w1 : wS C (irMix p q r z) [.stt, .val (.int (((tn0 : Nat) : Int) + 1)), .val (.int 0), .non, .non, .non] { nx := fun _ => False, rt := fun r => r.out = true ∧ ∀ v H' S', Step (up (some t) 1) S H S' H' → RepR g (up (some t) 1) H S' H H' r v → Q v H' } (fun _ => False) :=
                  mix_ok (by omega) (by have := tn0.2; omega) hp hq hr' hz hw
                have h3 := rest_ok (Hs := H) (sx := up (some t) 1) (qual := qual) (f := f) (cdv := cdv) (A := A) (outer := outer) (s := s) (EX := E) (gd := false) sN hr (fun z => by cases z) c3 ct lm ⟨0, by rw [show costS C (irMix p q r z) = 0 by simp [irMix, irMixB, costS, costE], up_zero]⟩ env1 sp o.up w1 (fun cls d H' ⟨_, _, _, _, hF⟩ => hF.elim)
                refine h3.mono ⟨?_, ?_, ?_, ?_⟩
                · rintro σ' H' ⟨_, _, _, _, _, q⟩; exact q.elim
                · rintro v H' ⟨S', r', s', rr, _, qq⟩
                  rw [show costS C (irMix p q r z) = 0 by simp [irMix, irMixB, costS, costE], up_zero] at s' rr
                  exact qq.2 v H' S' s' rr
                · rintro σ' H' ⟨_, _, _, _, _, q⟩; exact q.elim
                · rintro σ' H' ⟨_, _, _, _, _, q⟩; exact q.elim
              · cases c2
            · cases d10
          · cases d10
        · cases c1
      · cases hc
/-! ### _law_draw -/
def fsDraw : FS where
  ks := [.s, .v]
  sp as P _ := ∃ room : Int, as = [.stt, .val (.int room)] ∧ 0 < room ∧ room < 2 ^ 30 ∧ ∀ d : Int, 0 ≤ d → d < room → P (.val (.int d))
  mono := fun as P P' X X' f x ⟨room, h1, h2, h3, h4⟩ => ⟨room, h1, h2, h3, fun d a b => f _ (h4 d a b)⟩
def drawN : List Str := ["state", "room", "found"]
/-- f(x), one name called -/
def call1 : Expr → Option (Str × Expr)
  | .Call (.Name f _) [x] [] _ => some (f, x)
  | _ => none
/-- o.m(x) -/
def meth1 : Expr → Option (Expr × Str × Nat × Nat × Expr)
  | .Call (.Attribute o m ap) [x] [] p => some (o, m, ap.endLine, p.line, x)
  | _ => none
def cmp1 : Expr → Option (CmpOp × Expr × Expr)
  | .Compare a [o] [b] _ => some (o, a, b)
  | _ => none
def isNilL : Expr → Bool
  | .List [] _ => true
  | _ => false
def ifx : Expr → Option (Expr × Expr × Expr)
  | .IfExp c a b _ => some (c, a, b)
  | _ => none
def if1 : Stmt → Option (Expr × Stmt)
  | .If c [a] [] _ => some (c, a)
  | _ => none
def binOf : Expr → Option (Operator × Expr × Expr)
  | .BinOp a o b _ => some (o, a, b)
  | _ => none
theorem call1_ok {e x : Expr} {f : Str} (h : call1 e = some (f, x)) : ∃ p q, e = .Call (.Name f p) [x] [] q := by
  unfold call1 at h
  split at h
  · cases h; exact ⟨_, _, rfl⟩
  · cases h
theorem meth1_ok {e o x : Expr} {m : Str} {a b : Nat} (h : meth1 e = some (o, m, a, b, x)) : ∃ ap p, e = .Call (.Attribute o m ap) [x] [] p ∧ ap.endLine = a ∧ p.line = b := by
  unfold meth1 at h
  split at h
  · cases h; exact ⟨_, _, rfl, rfl, rfl⟩
  · cases h
theorem cmp1_ok {e a b : Expr} {o : CmpOp} (h : cmp1 e = some (o, a, b)) : ∃ p, e = .Compare a [o] [b] p := by
  unfold cmp1 at h
  split at h
  · cases h; exact ⟨_, rfl⟩
  · cases h
theorem isNilL_ok {e : Expr} (h : isNilL e = true) : ∃ p, e = .List [] p := by
  unfold isNilL at h
  split at h
  · exact ⟨_, rfl⟩
  · cases h
theorem ifx_ok {e a b c : Expr} (h : ifx e = some (c, a, b)) : ∃ p, e = .IfExp c a b p := by
  unfold ifx at h
  split at h
  · cases h; exact ⟨_, rfl⟩
  · cases h
theorem if1_ok {s a : Stmt} {c : Expr} (h : if1 s = some (c, a)) : ∃ p, s = .If c [a] [] p := by
  unfold if1 at h
  split at h
  · cases h; exact ⟨_, rfl⟩
  · cases h
theorem binOf_ok {e a b : Expr} {o : Operator} (h : binOf e = some (o, a, b)) : ∃ p, e = .BinOp a o b p := by
  unfold binOf at h
  split at h
  · cases h; exact ⟨_, rfl⟩
  · cases h
def atB (Γ : Sc) (e : Expr) (k : Str) : Bool := match stAt e with
  | some (a, k') => nmB Γ 0 a && k' == k
  | none => false
def putB (Γ : Sc) (s : Stmt) (k : Str) (v : Expr → Bool) : Bool := match putOf s with
  | some (a, k', e) => nmB Γ 0 a && k' == k && v e
  | none => false
theorem atB_pe {e : Expr} {kk : Str} (cx : CxG g Γ k X) (h : atB Γ e kk = true) : PE X e (tDGet (tVar 0) (tC (.str kk))) := by
  unfold atB at h
  split at h
  · rename_i a k' q
    obtain ⟨h1, h2⟩ := ba h
    have h2 := eq_of_beq h2
    subst h2
    exact stat_pe cx q h1
  · cases h
theorem atB_form {e : Expr} {kk : Str} (h : atB Γ e kk = true) : noCall0 e = true := by
  unfold atB at h
  split at h
  · rename_i a k' q
    obtain ⟨p1, j, p2, p3, rfl⟩ := stAt_ok q
    rfl
  · cases h
theorem ints_py (gs : List Int) : D.pys (gs.map D.int) = some (gs.map PyData.int) := by
  induction gs with
  | nil => rfl
  | cons n gs ih => simp [D.pys, D.py, ih]
theorem ints_lay (gs : List Int) : PyData.canLayAll0 (gs.map PyData.int) = true ∧ PyData.depthAll (gs.map PyData.int) = 0 := by
  induction gs with
  | nil => exact ⟨rfl, rfl⟩
  | cons n gs ih => simp [PyData.canLayAll0, PyData.canLay0, PyData.depthAll, PyData.depth, ih.1, ih.2]
theorem ints_shaped (gs : List Int) : SeqAt.shaped (.list (gs.map PyData.int)) = true := by
  simp [SeqAt.shaped, PyData.canLay0, PyData.depth, ints_lay gs]
theorem putB_ok {s : Stmt} {kk : Str} {v : Expr → Bool} (h : putB Γ s kk v = true) : ∃ a p1 j p2 p3 e p4, s = .Assign [.Subscript (.Name a p1) (.Constant (.str kk) j p2) p3] e p4 ∧ nmB Γ 0 a = true ∧ v e = true := by
  unfold putB at h
  split at h
  · rename_i a k' e q
    obtain ⟨z1, h3⟩ := ba h
    obtain ⟨h1, h2⟩ := ba z1
    have h2 := eq_of_beq h2
    obtain ⟨p1, j, p2, p3, p4, rfl⟩ := putOf_ok q
    rw [h2]
    exact ⟨a, p1, j, p2, p3, e, p4, rfl, h1, h3⟩
  · cases h
/-- state['great'].pop(0) if state['great'] != [] else _law_mixed(state) -/
def nextB (Γ : Sc) (mx : Str) (e : Expr) : Bool := match ifx e with
  | some (c, a, b) => (match cmp1 c with
      | some (.NotEq, x, y) => atB Γ x "great" && isNilL y
      | _ => false) && (match meth1 a with
      | some (o, m, la, lb, x) => atB Γ o "great" && m == "pop" && la == lb && intOf x == some 0
      | none => false) && (match call1 b with
      | some (f, .Name s _) => f == mx && glB Γ.sc f && noDbg f && nmB Γ 0 s
      | _ => false)
  | none => false
theorem st_pop {t : StA} {S H : Hp} {gs cs : List Int} {r : Int} {n : Fin (t.lim + 1)} (o : Ok (some t) S H) (h1 : H t.a = some (.dK (stKvs t r ((n : Nat) : Int)))) (h3 : S t.c = some (.lst (cs.map V.int))) (h4 : S t.a = none) (h5 : S t.g = none) (hne : t.a ≠ t.g) :
    Step (some t) S H S (upd H t.g (.lst (gs.map V.int))) := by
  refine ⟨Ex.refl S, fun l u e => ?_, fun l u e n2 k2 => ⟨?_, n2⟩, ⟨gs, cs, r, n, ?_, upd_same, h3, h4, h5⟩⟩
  · have : l ≠ t.g := fun z => by rw [z, h5] at e; cases e
    rw [upd_ne this]
    exact o.sub l u e
  · have : l ≠ t.g := fun z => k2 (.inr z)
    rw [upd_ne this]
    exact e
  · rw [upd_ne hne]
    exact h1
/-- the next rest: any int; the state goes on -/
theorem next_ok {mx : Str} {e : Expr} {t : StA} {a : Addr} {σ : L2.St} {n : Nat} (cx : CxG g Γ n X) (h : nextB Γ mx e = true) (hs0 : σ[0]? = some (some (.ref t.a))) (o : Ok (some t) S H) (lm : Lim (up (some t) 1)) (hm : X.mg mx = some (.ref a)) (hk : PySem.W.keepIn X.K (.ref a) = true)
    (F : FnR X.prog X.w X.K X.mg X.base (L2.CX X.prog X.w) n a (spOf g fsMixed 1)) (hx : Passes (L2.CX X.prog X.w) X (fun _ _ _ => False)) :
    RunE X e σ H (fun v H' => ∃ (m : Int) (S' : Hp), v = .int m ∧ Step (up (some t) 1) S H S' H') := by
  obtain ⟨gs, cs, r0, n0, k1, k2, k3, k4, k5⟩ := o.st
  have hne : t.a ≠ t.g := fun z => by rw [z, k2] at k1; cases k1
  unfold nextB at h
  split at h
  · rename_i c a' b q
    obtain ⟨p, rfl⟩ := ifx_ok q
    obtain ⟨h, h3⟩ := ba h
    obtain ⟨h1, h2⟩ := ba h
    split at h1
    · rename_i x y q1
      obtain ⟨p1, rfl⟩ := cmp1_ok q1
      obtain ⟨hA, h4⟩ := ba h1
      obtain ⟨p2, rfl⟩ := isNilL_ok h4
      split at h2
      · rename_i om m la lb x0 q2
        obtain ⟨ap, p3, rfl, el1, el2⟩ := meth1_ok q2
        obtain ⟨z1, h8⟩ := ba h2
        obtain ⟨z2, h7⟩ := ba z1
        obtain ⟨h5, z3⟩ := ba z2
        have h6 := eq_of_beq z3
        subst h6
        rw [← el1, ← el2] at h7
        obtain ⟨j0, p0, rfl⟩ := intOf_ok (eq_of_beq h8)
        split at h3
        · rename_i f s ps q3
          obtain ⟨p4, p5, rfl⟩ := call1_ok q3
          obtain ⟨y1, h12⟩ := ba h3
          obtain ⟨y2, h11⟩ := ba y1
          obtain ⟨y3, h10⟩ := ba y2
          have h9 := eq_of_beq y3
          subst h9
          have hu : X.A.units + 64 < cLine := cx.ok.room.units
          refine RunE.of (pe_ifExp (pt_cmpR (op_neD hu) (atB_pe cx hA) (pe_lst pa_nil) (nomark _)) (pe_bm PySem.F.plainAttrs_list PySem.F.slot_list_pop PySem.F.type_list_pop mt_popAt (atB_pe cx h5) (pa_cons pe_int pa_nil rfl) (noCall_base (atB_form h5)) rfl h7 rfl rfl)
            (pe_callR (Γ := Γ) (free := fun _ => true) (ir := .nil) F cx.room (glB_ok cx h10) hm hk hx (pa_cons (nm_pe cx h12) pa_nil rfl) (noDbg_ok h11) rfl rfl)) ?_
          refine ⟨.ref t.a, hs0, t.a, .ref t.g, rfl, DGet.k (k := .inr "great") k1, Nat.zero_le _, fun p hp => ?_⟩
          have sN := Step.newOut (u := HO.lst []) o hp
          have hpa : t.a ≠ p := ne_of_none k1 hp
          have hpg : t.g ≠ p := ne_of_none k2 hp
          have k1' : upd H p (.lst []) t.a = some (.dK (stKvs t r0 ((n0 : Nat) : Int))) := by rw [upd_ne hpa]; exact k1
          have k2' : upd H p (.lst []) t.g = some (.lst (gs.map V.int)) := by rw [upd_ne hpg]; exact k2
          have dg : Dp X.K (upd H p (.lst [])) (.ref t.g) (.list (gs.map PyData.int)) := by
            rw [cx.ok.K]
            refine Rep.dp (d := .lst (gs.map D.int)) (by simp [D.py, ints_py]) ?_
            simp only [Rep]
            exact ⟨t.g, _, rfl, k2', Reps.of_ints⟩
          have dn : Dp X.K (upd H p (.lst [])) (.ref p) (.list []) := .lst (SqL.of upd_same) .nil
          refine ⟨_, _, dg, dn, ints_shaped gs, rfl, _, rfl, ?_⟩
          cases gs with
          | nil =>
            refine (if_neg (by simp [PyData.eqv, PyData.eqvAll])).mpr ?_
            refine ⟨.ref t.a, hs0, some t, S, [.stt], sN.ok, lm, .cons ⟨t, rfl, rfl⟩ (.nil _), rfl, fun m => ⟨rfl, fun v H' S' s' r' => ?_⟩⟩
            simp only [RepR, Rep] at r'
            exact ⟨m, S', r', sN.up.trans s'⟩
          | cons g0 gs =>
            refine (if_pos (by simp [PyData.eqv, PyData.eqvAll])).mpr ?_
            refine ⟨.ref t.a, hs0, t.a, .ref t.g, rfl, DGet.k (k := .inr "great") k1', .inl ⟨rfl, _, SqL.of k2'⟩, t.g, _, 0, 0, .int g0, rfl, rfl, k2', by decide, by decide, ?_, rfl, g0, S, rfl, ?_⟩
            · simp [seqIndex?]
            · exact (sN.trans (st_pop (gs := gs) sN.ok k1' k3 k4 k5 hne)).up
        · cases h3
      · cases h2
    · cases h1
  · cases h
def chkDraw (Γ : Sc) (mx : Str) (body : List Stmt) : Bool := match body with
  | [s1, s2, s3, s4] => (match if1 s1 with
      | some (c, a) => (match cmp1 c with
        | some (.Eq, x, y) => atB Γ x "rest" && intOf y == some 0
        | _ => false) && putB Γ a "rest" (fun e => nextB Γ mx e && plainVal e)
      | none => false) && (match asgOf s2 with
      | some (.Name f _, v, _) => lclB Γ 2 f && (match binOf v with
        | some (.Mod, c, .Name r _) => nmB Γ 1 r && (match call1 c with
          | some (i, x) => i == "int" && glB Γ.sc i && noDbg i && atB Γ x "rest" && nonStar x
          | none => false)
        | _ => false)
      | _ => false) && putB Γ s3 "rest" (fun e => match binOf e with
        | some (.FloorDiv, x, .Name r _) => nmB Γ 1 r && atB Γ x "rest"
        | _ => false) && (match s4 with
      | .Return (some (.Name f _)) _ => nmB Γ 2 f
      | _ => false)
  | _ => false
theorem draw_okR {mx : Str} {am : Addr} (F : FunD g.K nx qual params body scope [] [] f fd) (pl : plainArgs params = true) (hs : fnB drawN (pnm params) scope = true) (hp1 : (pnm params).length = 2) (hc : chkDraw ⟨scope, drawN, fun _ => true, false⟩ mx body = true) (hi : g.mg "int" = none)
    (hm : g.mg mx = some (.ref am)) (hkm : PySem.W.keepIn g.K (.ref am) = true) (Fm : FnR g.P g.w g.K g.mg g.base (L2.CX g.P g.w) n am (spOf g fsMixed 1)) :
    FnR g.P g.w g.K g.mg g.base (L2.CX g.P g.w) (n + 2) f (spOf g fsDraw 1) := by
  refine FnR.imp ((F.ok (sp := spOf g fsDraw 1) (fnB_ok hs) (fun vs H Q E h => ?_) fun cdv A outer s H vs Q E hr h => ?_).raw (def_bind F pl hs) .nil) fun vs H Q E h => by rw [List.append_nil]; exact h
  · obtain ⟨st, S, as, o, lm, a, room, w, _⟩ := h
    subst w
    rw [a.length, hp1]
    rfl
  · obtain ⟨st, S, as, o, lm, a, room, w, r1, r2, hw⟩ := h
    subst w
    have sN := fnB_ok hs
    cases a with
    | cons a b =>
      cases b with
      | cons a' b =>
        cases b
        rename_i v v'
        obtain ⟨t, e1, e2⟩ := a
        subst e1 e2
        simp only [ArgR, Rep] at a'
        subst a'
        have cx := cxg_of (g := g) (cdv := cdv) (f := f) (qual := qual) (A := A) (outer := outer) (s := s) (H := H) (EX := E) (gd := false) sN hr (fun z => by cases z)
        unfold chkDraw at hc
        split at hc
        · rename_i s1 s2 s3 s4
          obtain ⟨hc1, c4⟩ := ba hc
          obtain ⟨hc2, c3⟩ := ba hc1
          obtain ⟨c1, c2⟩ := ba hc2
          split at c1
          · rename_i ci ai q1
            obtain ⟨p1, rfl⟩ := if1_ok q1
            obtain ⟨c1a, c1b⟩ := ba c1
            split at c1a
            · rename_i xi yi q2
              obtain ⟨p2, rfl⟩ := cmp1_ok q2
              obtain ⟨d1, d2⟩ := ba c1a
              obtain ⟨j0, p0, rfl⟩ := intOf_ok (eq_of_beq d2)
              obtain ⟨na, q3, j3, q4, q5, ev, q6, rfl, d3, d4⟩ := putB_ok c1b
              obtain ⟨d4, d5⟩ := ba d4
              split at c2
              · rename_i nf pf v2 l2 q7
                obtain ⟨p7, rfl, _⟩ := asgOf_ok q7
                obtain ⟨d6, c2b⟩ := ba c2
                split at c2b
                · rename_i cc nr pr q8
                  obtain ⟨p8, rfl⟩ := binOf_ok q8
                  obtain ⟨d7, c2c⟩ := ba c2b
                  split at c2c
                  · rename_i ni xc q9
                    obtain ⟨p9, p10, rfl⟩ := call1_ok q9
                    obtain ⟨z1, d12⟩ := ba c2c
                    obtain ⟨z2, d11⟩ := ba z1
                    obtain ⟨z3, d10⟩ := ba z2
                    obtain ⟨z4, d9⟩ := ba z3
                    have d8 := eq_of_beq z4
                    subst d8
                    obtain ⟨na3, q13, j13, q14, q15, ev3, q16, rfl, d13, d14⟩ := putB_ok c3
                    split at d14
                    · rename_i x3 nr3 pr3 q17
                      obtain ⟨p17, rfl⟩ := binOf_ok q17
                      obtain ⟨d15, d16⟩ := ba d14
                      split at c4
                      · rename_i nf4 p4 p5
                        have hu : (A.deeper (envOfC qual scope s.heap.objs.size f cdv)).units + 1 < cLine := by have := hr.units; omega
                        obtain ⟨n2, l2⟩ := lclB_ok cx d6
                        have hx : Passes (L2.CX g.P g.w) (cxOf (L2.CX g.P g.w) g.P g.w g.K g.mg g.base drawN qual scope f cdv A outer s H E) (fun _ _ _ => False) := by
                          rintro pins σ' H2 s2 e s' I ⟨_, _, _, _, _, _, _, _, _, _, _, _, hE⟩
                          exact hE.elim
                        have run := next_ok (σ := L2.start drawN [V.ref t.a, V.int room]) cx d4 rfl o lm hm hkm Fm hx
                        refine ⟨_, pss_cons (ps_if (pt_cmpR op_eq (atB_pe cx d1) pe_int (nomark _)) (pss_one (ps_dput hu (nm_pe cx d3) pe_str pe_run (plainVal_swap d5))) pss_nil)
                          (pss_cons (ps_set sN.nd n2 (.inl l2) (pe_op op_modN (pe_callTy call_int1 (glB_ok cx d9) hi (by rfl) (pa_cons (atB_pe cx d11) pa_nil (starEach_cons d12)) (by decide) (noDbg_ok d10) (starEach_cons d12) rfl) (nm_pe cx d7)) rfl (.inl rfl))
                          (pss_cons (ps_dput hu (nm_pe cx d13) pe_str (pe_op op_fdivN (atB_pe cx d16) (nm_pe cx d15)) rfl) (pss_one (ps_ret (nm_pe cx c4))))), ?_⟩
                        obtain ⟨gs, cs, r0, n0, k1, k2, k3, k4, k5⟩ := o.st
                        have hne : t.a ≠ t.g := fun z => by rw [z, k2] at k1; cases k1
                        have z4 : 4 < sizeLine := by rw [sizeLine_eq]; decide
                        have key : ∀ (S1 H1 : Hp), Step (up (some t) 1) S H S1 H1 → tSeq (tAsg (tOp (rI (fun _ j => j ≠ 0) fun i j => .int (i.fmod j)) (tCB (fun xs H Q => (∃ i, xs = [.int i] ∧ Q (.int i) H) ∨ ∃ b, xs = [.bl b] ∧ Q (.int (if b = true then 1 else 0)) H) (tCons (tDGet (tVar 0) (tC (.str "rest"))) tNil)) (tVar 1)) (gName 2))
                            (tSeq (sDPut (tVar 0) (tC (.str "rest")) (tOp (rI CDivN fun i j => .int (i.fdiv j)) (tDGet (tVar 0) (tC (.str "rest"))) (tVar 1))) (tRet (tVar 2))) { nx := fun _ H' => Q .non H', rt := Q } (L2.start drawN [V.ref t.a, V.int room]) H1 := by
                          intro S1 H1 s1
                          obtain ⟨gs1, cs1, r1', n1', m1, m2, m3, m4, m5⟩ := s1.ok.st
                          have d1' := Int.fmod_nonneg_of_pos r1' r1
                          have d2' := Int.fmod_lt_of_pos r1' r1
                          refine ⟨.ref t.a, rfl, t.a, .int r1', rfl, DGet.k (k := .inr "rest") m1, .inl ⟨r1', rfl, .int room, rfl, r1', room, rfl, rfl, by omega, ?_⟩⟩
                          refine ⟨.ref t.a, rfl, t.a, .int r1', rfl, DGet.k (k := .inr "rest") m1, .int room, rfl, r1', room, rfl, rfl, ⟨by omega, by omega⟩, .ref t.a, rfl, t.a, _, rfl, DPut.k (k := .inr "rest") m1 z4, ?_⟩
                          refine ⟨.int (r1'.fmod room), rfl, ?_⟩
                          have sp := st_put (c := 0) (n := n1'.1) (r := r1'.fdiv room) s1.ok (by have := n1'.2; exact Nat.le_of_lt_succ this) m2 m3 m4 m5 hne
                          rw [up_zero] at sp
                          exact (hw _ d1' d2').2 _ _ S1 (s1.trans sp) (by simp only [RepR, Rep])
                        refine ⟨.ref t.a, rfl, t.a, .int r0, rfl, DGet.k (k := .inr "rest") k1, rfl, _, rfl, ?_⟩
                        dsimp only
                        split
                        · refine run.mono fun v1 H1 ⟨m, S1, e1, s1⟩ => ?_
                          subst e1
                          obtain ⟨gs1, cs1, r1', n1', m1, m2, m3, m4, m5⟩ := s1.ok.st
                          refine ⟨.ref t.a, rfl, t.a, _, rfl, DPut.k (k := .inr "rest") m1 z4, ?_⟩
                          have sp := st_put (c := 0) (n := n1'.1) (r := m) s1.ok (by have := n1'.2; exact Nat.le_of_lt_succ this) m2 m3 m4 m5 hne
                          rw [up_zero] at sp
                          exact key S1 _ (s1.trans sp)
                        · exact key S H (Step.refl o).up
                      · cases c4
                    · cases d14
                  · cases c2c
                · cases c2b
              · cases c2
            · cases c1a
          · cases c1
        · cases hc
end
end Dl

set_option Elab.async false
set_option linter.all false
set_option maxRecDepth 100000
set_option maxHeartbeats 4000000
/-! Dl: _law_begun, the law's frame. -/
namespace Dl
open PySem PySem.Spec PyProof.Rows L2
def begN : List Str := ["script", "great", "cell"]
abbrev eAbs (a : E) : E := .bi "abs" (es1 a)
def cBig : E := .comp (.bin .sub (eAbs (.var 2)) (.bin .pow (eI 10) (eI 18))) (.nm 2) (.itV (.var 0)) (es1 (.cmp .ge (eAbs (.var 2)) (.bin .pow (eI 10) (eI 18)))) [("cell", 2)] 0
def cAbs : E := .comp (eAbs (.var 2)) (.nm 2) (.itV (.var 0)) .nil [("cell", 2)] 0
def irBeg : St := .asg (.nm 1) cBig
section
variable {C : Ct}
theorem beg1 {ns : List Int} {b c : Sl} {W : WD} {X : XD → Prop} (hl : ns.length < sizeLine) (hn : ∀ (gs : List Int) c', W.nx [.val (.frl (ns.map D.int)), .own (gs.map D.int), c']) :
    wS C irBeg [.val (.frl (ns.map D.int)), b, c] W X := by
  simp only [irBeg, cBig, wS, wE, wIt, readSl, List.getElem?_cons_zero, itOf, costE, List.length_map]
  refine ⟨hl, fun z => absurd z (by simp), ?_⟩
  refine walkD_of (fun xs acc => (∃ m : List Int, xs = m.map D.int) ∧ ∃ gs : List Int, acc = gs.map D.int) ?_ ?_ ⟨⟨ns, rfl⟩, [], rfl⟩
  · rintro _ ⟨_, gs, rfl⟩
    exact hn gs _
  · rintro x xs acc k ⟨⟨m, e⟩, gs, rfl⟩ hk
    cases m with
    | nil => cases e
    | cons n m =>
      simp only [List.map_cons, List.cons.injEq] at e
      obtain ⟨rfl, e⟩ := e
      simp [wTg, wC, wT, wE, wEs, wBi, wBin, wCmp, R.see, Cst.d, readSl, wipeD, R.dat, CPow]
      split
      · exact hk _ ⟨⟨m, e⟩, gs ++ [(if n < 0 then -n else n) - 1000000000000000000], by simp⟩
      · exact hk _ ⟨⟨m, e⟩, gs, rfl⟩
theorem beg2 {ns : List Int} {b c : Sl} {P : R → Prop} {X : XD → Prop} (hl : ns.length < sizeLine) (hn : ∀ (gs : List Int), P (.fresh (gs.map D.int))) :
    wE C cAbs [.val (.frl (ns.map D.int)), b, c] P X := by
  simp only [cAbs, wE, wIt, readSl, List.getElem?_cons_zero, itOf, costE, List.length_map]
  refine ⟨hl, fun z => absurd z (by simp), ?_⟩
  refine walkD_of (fun xs acc => (∃ m : List Int, xs = m.map D.int) ∧ ∃ gs : List Int, acc = gs.map D.int) ?_ ?_ ⟨⟨ns, rfl⟩, [], rfl⟩
  · rintro _ ⟨_, gs, rfl⟩
    exact hn gs
  · rintro x xs acc k ⟨⟨m, e⟩, gs, rfl⟩ hk
    cases m with
    | nil => cases e
    | cons n m =>
      simp only [List.map_cons, List.cons.injEq] at e
      obtain ⟨rfl, e⟩ := e
      simp [wTg, wC, wT, wE, wEs, wBi, wBin, wCmp, R.see, Cst.d, readSl, wipeD, R.dat, CPow]
      exact hk _ ⟨⟨m, e⟩, gs ++ [if n < 0 then -n else n], by simp⟩
/-- the script comes in, the state of draws goes out -/
def spBegun (g : Gb) : Sp := fun vs H Q _ => ∃ (S : Hp) (ns : List Int) (a : Addr), vs = [.ref a] ∧ Ex S H ∧ SqL g.K S a (ns.map V.int) ∧ ns.length < sizeLine ∧ ∀ (t : StA) (H' S' : Hp), t.lim = 0 → Ex S S' → Ok (some t) S' H' → Q (.ref t.a) H'
def dict4 : Stmt → Option (Str × Str × Str × Str × Expr × Expr × Expr × Expr)
  | .Return (some (.Dict [some (.Constant (.str a) _ _), some (.Constant (.str b) _ _), some (.Constant (.str c) _ _), some (.Constant (.str d) _ _)] [x, y, z, u] _)) _ => some (a, b, c, d, x, y, z, u)
  | _ => none
theorem dict4_ok {s : Stmt} {a b c d : Str} {x y z u : Expr} (h : dict4 s = some (a, b, c, d, x, y, z, u)) : ∃ j1 p1 j2 p2 j3 p3 j4 p4 p5 p6, s = .Return (some (.Dict [some (.Constant (.str a) j1 p1), some (.Constant (.str b) j2 p2), some (.Constant (.str c) j3 p3), some (.Constant (.str d) j4 p4)] [x, y, z, u] p5)) p6 := by
  unfold dict4 at h
  split at h
  · cases h; exact ⟨_, _, _, _, _, _, _, _, _, _, rfl⟩
  · cases h
def chkBegun (free : Str → Bool) (Γ : Sc) (body : List Stmt) : Bool := match body with
  | [s1, s2] => chk1 free Γ irBeg s1 && (match dict4 s2 with
    | some (a, b, c, d, .Name x _, y, z, u) => a == "great" && b == "cells" && c == "rest" && d == "turn" && nmB Γ 1 x && chkE free Γ cAbs y && intOf z == some 0 && intOf u == some 0
    | _ => false)
  | _ => false
variable {g : Gb} {qual nx : Str} {params : Arguments} {body : List Stmt} {scope : Scope} {f : Addr} {fd : FuncData} {n : Nat}
theorem begun_okR (F : FunD g.K nx qual params body scope [] [] f fd) (pl : plainArgs params = true) (hs : fnB begN (pnm params) scope = true) (hp1 : (pnm params).length = 1) (hc : chkBegun C.free ⟨scope, begN, fun _ => true, false⟩ body = true) (ct : CtOk g C n) :
    FnR g.P g.w g.K g.mg g.base (L2.CX g.P g.w) (n + 2) f (spBegun g) := by
  refine FnR.imp ((F.ok (sp := spBegun g) (fnB_ok hs) (fun vs H Q E h => ?_) fun cdv A outer s H vs Q E hr h => ?_).raw (def_bind F pl hs) .nil) fun vs H Q E h => by rw [List.append_nil]; exact h
  · obtain ⟨S, ns, a, w, _⟩ := h
    subst w
    rw [hp1]
    rfl
  · obtain ⟨S, ns, a, w, hS, hq, hl, hQ⟩ := h
    subst w
    have sN := fnB_ok hs
    have o : Ok none S H := ⟨hS, trivial⟩
    have ar : ArgsR g none S H [.v] [.val (.frl (ns.map D.int))] [.ref a] := .cons (by simp only [ArgR, Rep]; exact ⟨a, _, rfl, hq, Reps.of_ints⟩) (.nil _)
    have env0 := env_start (N := begN) ar
    have cx := cxg_of (g := g) (cdv := cdv) (f := f) (qual := qual) (A := A) (outer := outer) (s := s) (H := H) (EX := E) (gd := false) sN hr (fun z => by cases z)
    have tk : Takes (cxOf (L2.CX g.P g.w) g.P g.w g.K g.mg g.base begN qual scope f cdv A outer s H E) (WishX g none S H fun _ => False) := takes_no
    unfold chkBegun at hc
    split at hc
    · rename_i s1 s2
      obtain ⟨c1, c2⟩ := ba hc
      split at c2
      · rename_i ka kb kc kd x px y z u q
        obtain ⟨j1, p1, j2, p2, j3, p3, j4, p4, p5, p6, rfl⟩ := dict4_ok q
        obtain ⟨c2, d8⟩ := ba c2
        obtain ⟨c2, d7⟩ := ba c2
        obtain ⟨c2, d6⟩ := ba c2
        obtain ⟨c2, d5⟩ := ba c2
        obtain ⟨c2, d4⟩ := ba c2
        obtain ⟨c2, d3⟩ := ba c2
        obtain ⟨d1, d2⟩ := ba c2
        have d1 := eq_of_beq d1
        have d2 := eq_of_beq d2
        have d3 := eq_of_beq d3
        have d4 := eq_of_beq d4
        subst d1 d2 d3 d4
        obtain ⟨j5, p7, rfl⟩ := intOf_ok (eq_of_beq d7)
        obtain ⟨j6, p8, rfl⟩ := intOf_ok (eq_of_beq d8)
        have hyp : Hyp g C ⟨scope, begN, fun _ => true, false⟩ n (cxOf (L2.CX g.P g.w) g.P g.w g.K g.mg g.base begN qual scope f cdv A outer s H E) none none S H S H (L2.start begN [V.ref a]) (startD begN [.val (.frl (ns.map D.int))]) (fun _ => False) := ⟨ct, cx, tk, Step.refl o, env0, trivial⟩
        have run1 := (snd_st irBeg).1 c1 hyp (passes_of rfl) sN.kind o ⟨0, rfl⟩ (beg1 (C := C) (b := .non) (c := .non) (W := { nx := fun δ => ∃ (gs : List Int) (c' : Sl), δ = [.val (.frl (ns.map D.int)), .own (gs.map D.int), c'], rt := fun _ => False }) hl fun gs c' => ⟨gs, c', rfl⟩)
        refine ⟨_, pss_cons ps_run (pss_one (ps_ret (pe_disp (pps_cons pe_str (nm_pe cx d5) (pps_cons pe_str pe_run (pps_cons pe_str pe_int (pps_cons pe_str pe_int pps_nil)))) rfl rfl (by simp) (by simp)))), ?_⟩
        refine run1.mono ⟨?_, ?_, ?_, ?_⟩
        · rintro σ1 H1 ⟨S1, δ1, x1, st1, e1, gs, c', rfl⟩
          intro p hp
          obtain ⟨_, L, hL, _⟩ := id e1
          obtain ⟨gvs, g1, g2, g3, g4, g5, g6⟩ := hL 1 _ rfl
          have hn1 := Step.newOut (u := HO.dK []) st1.ok hp
          have hyp2 : Hyp g C ⟨scope, begN, fun _ => true, false⟩ n (cxOf (L2.CX g.P g.w) g.P g.w g.K g.mg g.base begN qual scope f cdv A outer s H E) none none S H S1 (upd H1 p (.dK [])) σ1 _ (fun _ => False) := ⟨ct, cx, tk, st1.trans hn1, e1.step st1.ok hn1, trivial⟩
          have run2 := (snd_all cAbs).1.e d6 hyp2 ⟨0, rfl⟩ (beg2 (C := C) (P := fun r => ∃ cs : List Int, r = .fresh (cs.map D.int)) hl fun cs => ⟨cs, rfl⟩)
          refine ⟨_, g1, ?_⟩
          refine run2.mono fun v2 H2 ⟨S2, r2, s2, rr, cs, er⟩ => ?_
          subst er
          obtain ⟨S3, s3, x3, rep, n3⟩ := rr.dat s2 rfl
          simp only [Rep] at rep
          obtain ⟨ca, cvs, rfl, k1, k2⟩ := rep
          have hpS : S1 p = none := st1.ok.sub.none hp
          have hp2 : upd H1 p (.dK []) p = some (.dK []) := upd_same
          have k3 := s3.out p _ hp2 hpS (fun z => z)
          refine ⟨k3.1, [(.inr "great", .ref (L 1)), (.inr "cells", .ref ca), (.inr "rest", .int 0), (.inr "turn", .int 0)], rfl, by simp, ?_⟩
          have hgp : L 1 ≠ p := ne_of_none g2 hp
          have g7 := s3.out (L 1) _ (show upd H1 p (.dK []) (L 1) = _ by rw [upd_ne hgp]; exact g2) g3 (fun z => z)
          have eg := g6.ints
          have ec := k2.ints
          subst eg ec
          refine hQ ⟨p, L 1, ca, 0⟩ _ S3 rfl (x1.trans (hn1.ext.trans s3.ext)) ⟨fun l w e => ?_, gs, cs, 0, 0, upd_same, ?_, k1, k3.2, g7.2⟩
          · have : l ≠ p := fun z => by rw [z, k3.2] at e; cases e
            rw [upd_ne this]
            exact s3.sub l w e
          · show upd H2 p _ (L 1) = _
            rw [upd_ne hgp]
            exact g7.1
        · rintro v H' ⟨_, _, _, _, _, q⟩; exact q.elim
        · rintro σ' H' ⟨_, _, _, _, _, q⟩; exact q.elim
        · rintro σ' H' ⟨_, _, _, _, _, q⟩; exact q.elim
      · cases c2
    · cases hc
end
end Dl

set_option Elab.async false
set_option linter.all false
set_option maxRecDepth 100000
set_option maxHeartbeats 4000000
/-! Dl: the law's own def. -/
namespace Dl
open PySem PySem.Spec PyProof.Rows L2
def spLaw (g : Gb) (m : Nat) : Sp := fun vs H Q _ => ∃ (ns : List Int) (a : Addr), vs = [.ref a] ∧ SqL g.K H a (ns.map V.int) ∧ ns.length ≤ m ∧ ∀ H', Q (.bl true) H'
def chkLaw (free : Str → Bool) (Γ : Sc) (ir : St) (body : List Stmt) : Bool := match body with
  | s1 :: rest => (match asgOf s1 with
    | some (.Name x _, v, _) => (Γ.N[1]? == some x && locB Γ.sc x) && (match call1 v with
      | some (f, .Name y _) => f == "_law_begun" && glB Γ.sc f && noDbg f && nmB Γ 0 y
      | _ => false)
    | _ => false) && chkS free Γ ir rest
  | [] => false
/-- what the law's text must do -/
def KeepsL (C : Ct) (ir : St) (N : List Str) (m : Nat) : Prop := ∀ ns : List Int, ns.length ≤ m → wS C ir (startD N [.val (.frl (ns.map D.int)), .stt]) { nx := fun _ => False, rt := fun r => r = .val (.bl true) } (fun _ => False)
section
variable {C : Ct} {g : Gb} {qual nx : Str} {params : Arguments} {body : List Stmt} {scope : Scope} {f ab : Addr} {fd : FuncData} {n m : Nat} {N : List Str} {ir : St}
theorem law_okG (F : FunD g.K nx qual params body scope [] [] f fd) (pl : plainArgs params = true) (hs : fnB N (pnm params) scope = true) (hp1 : (pnm params).length = 1) (hN : 2 ≤ N.length) (hc : chkLaw C.free ⟨scope, N, fun _ => true, true⟩ ir body = true) (ct : CtOk g C n) (hm : m < sizeLine) (hb : costS C ir ≤ LIM) (hk : KeepsL C ir N m)
    (mb : g.mg "_law_begun" = some (.ref ab)) (kb : PySem.W.keepIn g.K (.ref ab) = true) (Fb : FnR g.P g.w g.K g.mg g.base (L2.CX g.P g.w) n ab (spBegun g)) :
    FnG g.P g.w g.K g.mg g.base (L2.CX g.P g.w) (n + 2) f (spLaw g m) := by
  refine fn_ofG F (def_bind F pl hs) (fnB_ok hs) (fun vs H Q E h => ?_) fun cdv A outer s H vs Q E hr hg h => ?_
  · obtain ⟨ns, a, rfl, _⟩ := h
    rw [hp1]; rfl
  · obtain ⟨ns, a, rfl, hq, hl, hQ⟩ := h
    have sN := fnB_ok hs
    have cx := cxg_of (g := g) (cdv := cdv) (f := f) (qual := qual) (A := A) (outer := outer) (s := s) (H := H) (EX := E) (gd := true) sN hr (fun _ => hg)
    have hx : Passes (L2.CX g.P g.w) (cxOf (L2.CX g.P g.w) g.P g.w g.K g.mg g.base N qual scope f cdv A outer s H E) (fun _ _ _ => False) := by
      rintro pins σ' H2 s2 e s' I ⟨_, _, _, _, _, _, _, _, _, _, _, _, hE⟩
      exact hE.elim
    cases body with
    | nil => cases hc
    | cons s1 rest =>
      simp only [chkLaw] at hc
      obtain ⟨c1, c2⟩ := ba hc
      split at c1
      · rename_i x px v l q
        obtain ⟨p1, rfl, _⟩ := asgOf_ok q
        obtain ⟨d1, d2⟩ := ba c1
        split at d2
        · rename_i ff y py q2
          obtain ⟨p2, p3, rfl⟩ := call1_ok q2
          obtain ⟨z1, d6⟩ := ba d2
          obtain ⟨z2, d5⟩ := ba z1
          obtain ⟨z3, d4⟩ := ba z2
          have d3 := eq_of_beq z3
          subst d3
          obtain ⟨k1, k2⟩ := ba d1
          have n1 : N[1]? = some x := eq_of_beq k1
          have l1 : L2.Loc scope x := locB_ok k2
          refine ⟨_, pss_cons (ps_set sN.nd n1 l1 (pe_callR (Γ := ⟨scope, N, fun _ => true, true⟩) (free := fun _ => true) (ir := .nil) Fb cx.room (glB_ok cx d4) mb kb hx (pa_cons (nm_pe cx d6) pa_nil rfl) (noDbg_ok d5) rfl rfl) rfl (.inl rfl)) pss_run, ?_⟩
          have hN0 : (L2.start N [V.ref a])[0]? = some (some (V.ref a)) := by unfold L2.start; rfl
          refine ⟨.ref a, hN0, H, ns, a, rfl, Ex.refl H, hq, Nat.lt_of_le_of_lt hl hm, fun t H' S' l0 x' o' => ?_⟩
          have ar : ArgsR g (some t) S' H' [.v, .s] [.val (.frl (ns.map D.int)), .stt] [.ref a, .ref t.a] := .cons (by simp only [ArgR, Rep]; exact ⟨a, _, rfl, x'.l hq, Reps.of_ints⟩) (.cons ⟨t, rfl, rfl⟩ (.nil _))
          have env := env_start (N := N) ar
          have eσ : (L2.start N [V.ref a]).set 1 (some (V.ref t.a)) = L2.start N [V.ref a, V.ref t.a] := by
            unfold L2.start
            rcases N with _ | ⟨n0, _ | ⟨n1, N'⟩⟩
            · simp at hN
            · simp at hN
            · simp [List.replicate_succ]
          show RunSs _ rest _ ((L2.start N [V.ref a]).set 1 (some (V.ref t.a))) H'
          rw [eσ]
          have lm : Lim (up (some t) (costS C ir)) := by show t.lim + costS C ir ≤ LIM; omega
          have h3 := rest_ok (Hs := H) (sx := up (some t) (costS C ir)) (qual := qual) (f := f) (cdv := cdv) (A := A) (outer := outer) (s := s) (EX := E) (gd := true) sN hr (fun _ => hg) c2 ct lm ⟨0, rfl⟩ env (Step.refl o') o' (hk ns hl) (fun cls d H' ⟨_, _, _, _, hF⟩ => hF.elim)
          refine h3.mono ⟨?_, ?_, ?_, ?_⟩
          · rintro σ' H' ⟨_, _, _, _, _, q⟩; exact q.elim
          · rintro v H' ⟨S', r', s', rr, _, rfl⟩
            simp only [RepR, Rep] at rr
            subst rr
            exact hQ H'
          · rintro σ' H' ⟨_, _, _, _, _, q⟩; exact q.elim
          · rintro σ' H' ⟨_, _, _, _, _, q⟩; exact q.elim
        · cases d2
      · cases c1
end
end Dl

set_option Elab.async false
set_option linter.all false
set_option maxRecDepth 100000
set_option maxHeartbeats 4000000
/-! Dl: _law_plain, _law_is. -/
namespace Dl
open PySem PySem.Spec PyProof.Rows L2
mutual
/-- plain data of at most that depth, no long lists -/
def D.plain : D → Nat → Bool
  | .non, _ => true
  | .bl _, _ => true
  | .int _, _ => true
  | .str _, _ => true
  | .lst xs, n + 1 => decide (xs.length < 10000) && D.plains xs n
  | .tup xs, n + 1 => decide (xs.length < 10000) && D.plains xs n
  | _, _ => false
def D.plains : List D → Nat → Bool
  | [], _ => true
  | d :: ds, n => D.plain d n && D.plains ds n
end
theorem plains_mem {xs : List D} {n : Nat} (h : D.plains xs n = true) : ∀ d ∈ xs, d.plain n = true := by
  induction xs with
  | nil => intro d hd; cases hd
  | cons x xs ih =>
    simp only [D.plains] at h
    obtain ⟨h1, h2⟩ := ba h
    intro d hd
    rcases List.mem_cons.mp hd with rfl | hd
    · exact h1
    · exact ih h2 d hd
def fsPlain (n : Nat) : FS where
  ks := [.v]
  sp as P _ := ∃ d : D, as = [.val d] ∧ d.plain n = true ∧ P (.val (.bl true))
  mono := fun as P P' X X' f x ⟨d, h1, h2, h3⟩ => ⟨d, h1, h2, f _ h3⟩
def plainN : List Str := ["value", "one"]
def irPlain : St :=
  .seq (.ifs (.tr (.isi (.var 0) [.b "list", .b "tuple"])) (.seq (.ret (.cmp .eq (.comp (eI 1) (.nm 1) (.itV (.var 0)) (es1 (.not_ (.tr (.call "_law_plain" (es1 (.var 1)))))) [("one", 1)] 0) (.lst .nil))) .skip) .skip)
  (.seq (.ifs (.tr (.isi (.var 0) [.b "dict"])) (.seq .never .skip) .skip)
  (.seq (.ret (.or_ (.cmp .is_ (.var 0) (.cst .non)) (.isi (.var 0) [.b "int", .b "str"]))) .skip))
/-- the answers of isinstance on built-in types that are used here -/
def isaB : Ty → Ty → Option Bool
  | .b a, .b c => (match a, c with
    | "list", "list" | "tuple", "tuple" | "int", "int" | "str", "str" | "bool", "bool" | "bool", "int" | "dict", "dict" => some true
    | "NoneType", "list" | "NoneType", "tuple" | "NoneType", "dict" | "NoneType", "int" | "NoneType", "str" | "NoneType", "bool" => some false
    | "bool", "list" | "bool", "tuple" | "bool", "dict" | "bool", "str" => some false
    | "int", "list" | "int", "tuple" | "int", "dict" | "int", "str" | "int", "bool" => some false
    | "str", "list" | "str", "tuple" | "str", "dict" | "str", "int" | "str", "bool" => some false
    | "list", "tuple" | "list", "dict" | "list", "int" | "list", "str" | "list", "bool" => some false
    | "tuple", "list" | "tuple", "dict" | "tuple", "int" | "tuple", "str" | "tuple", "bool" => some false
    | "dict", "list" | "dict", "tuple" | "dict", "int" | "dict", "str" | "dict", "bool" => some false
    | _, _ => none)
  | _, _ => none
theorem isaB_ok {g : Gb} {s t : Ty} {r : Bool} (h : isaB s t = some r) : PySem.W.kitOne g.K (tyV g s) (tyV g t) = some r := by
  cases s <;> cases t <;> try (simp [isaB] at h; done)
  simp only [isaB] at h
  split at h <;> first | (cases h; done) | (cases h; exact kit_ty (by decide +kernel))
structure IsaOk (C : Ct) : Prop where
  le : ∀ s t r, isaB s t = some r → C.isa s t = some r
section
variable {C : Ct}
theorem isa_b {a c : String} {r : Bool} (hi : IsaOk C) (h : isaB (.b a) (.b c) = some r := by rfl) : C.isa (.b a) (.b c) = some r := hi.le _ _ _ h
theorem plain_keeps {n : Nat} (hi : IsaOk C) (hf : ∀ m, n = m + 1 → C.fn "_law_plain" = some (fsPlain m)) (hcf : C.cf "_law_plain" = 0) : Keeps C irPlain plainN ["value"] (fsPlain n) := by
  rintro as P X ⟨d, rfl, hp, hP⟩
  refine ⟨rfl, ?_⟩
  have i1 := isa_b (C := C) hi (a := "list") (c := "list")
  have i2 := isa_b (C := C) hi (a := "tuple") (c := "list")
  have i3 := isa_b (C := C) hi (a := "tuple") (c := "tuple")
  have seqc : ∀ {xs : List D} {m : Nat} {Q : R → Prop}, n = m + 1 → xs.length < 10000 → D.plains xs m = true → Q (.val (.bl true)) →
      (∀ (d : D), (itOf (.val d) = some (false, xs)) → wE C (.cmp .eq (.comp (eI 1) (.nm 1) (.itV (.var 0)) (es1 (.not_ (.tr (.call "_law_plain" (es1 (.var 1)))))) [("one", 1)] 0) (.lst .nil)) [.val d, .non] Q X) := by
    intro xs m Q hn hl hpl hQ d hd
    have hz : (10000 : Nat) < sizeLine := by rw [sizeLine_eq]; decide
    simp only [wE, wIt, wEs, readSl, List.getElem?_cons_zero, hd, List.map_nil, asAll]
    refine ⟨by omega, fun z => absurd z ?_, ?_⟩
    · simp [costE, hcf]
    refine walkD_of (fun ys acc => (∀ y ∈ ys, D.plain y m = true) ∧ acc = []) ?_ ?_ ⟨plains_mem hpl, rfl⟩
    · rintro _ ⟨_, rfl⟩
      refine ⟨Nat.zero_le _, ?_⟩
      refine ⟨.list [], .list [], rfl, rfl, rfl, rfl, hQ⟩
    · rintro y ys acc k ⟨hy, rfl⟩ hk
      simp [wTg, wC, wT, wE, wEs, readSl, wipeD, hf m hn, wCall, fsPlain, asAll, R.as, R.dat, R.out, R.tru]
      exact ⟨hy y (by simp), hk [] ⟨fun z hz => hy z (by simp [hz]), rfl⟩⟩
  have b2 : ∀ (t : String) (d : D), C.isa (.b t) (.b "list") = some false → C.isa (.b t) (.b "tuple") = some false → d.tyOf = .b t → d.clsOk C.cls = true → C.isa (.b t) (.b "dict") = some false → ((d.isNon = true) ∨ (d.isNon = false ∧ ∃ q, isaAny C.isa (.b t) [.b "int", .b "str"] = some q ∧ q = true)) → wS C irPlain [.val d, .non] { nx := fun _ => P (.val .non), rt := P } X := by
    intro t d h1 h2 h3 h4 h5 h6
    simp [irPlain, wS, wT, wE, readSl, R.see, h3, h4, isaAny, h1, h2, h5, R.tru, Cst.d, wCmp]
    rcases h6 with h6 | ⟨h6, q, h7, rfl⟩
    · simp [h6, R.out, hP]
    · simp only [isaAny] at h7
      simp [h6, h7, R.out, hP]
  cases d with
  | non => exact b2 "NoneType" .non (isa_b hi) (isa_b hi) rfl rfl (isa_b hi) (.inl rfl)
  | bl b => exact b2 "bool" (.bl b) (isa_b hi) (isa_b hi) rfl rfl (isa_b hi) (.inr ⟨rfl, true, by simp [isaAny, isa_b (C := C) hi (a := "bool") (c := "int")], rfl⟩)
  | int b => exact b2 "int" (.int b) (isa_b hi) (isa_b hi) rfl rfl (isa_b hi) (.inr ⟨rfl, true, by simp [isaAny, isa_b (C := C) hi (a := "int") (c := "int")], rfl⟩)
  | str b => exact b2 "str" (.str b) (isa_b hi) (isa_b hi) rfl rfl (isa_b hi) (.inr ⟨rfl, true, by simp [isaAny, isa_b (C := C) hi (a := "str") (c := "int"), isa_b (C := C) hi (a := "str") (c := "str")], rfl⟩)
  | lst xs =>
    cases n with
    | zero => cases hp
    | succ m =>
      obtain ⟨h1, h2⟩ := ba hp
      have := seqc (Q := fun r => r.out = true ∧ P r) rfl (of_decide_eq_true h1) h2 ⟨rfl, hP⟩ (.lst xs) rfl
      show wS C irPlain [.val (.lst xs), .non] _ X
      simp only [irPlain, wS, wT]
      refine ⟨by simp, ?_⟩
      simp only [readSl, List.getElem?_cons_zero, R.see, D.tyOf, isaAny, i1, R.tru, wE]
      refine ⟨rfl, ?_⟩
      simpa only [wE] using this
  | tup xs =>
    cases n with
    | zero => cases hp
    | succ m =>
      obtain ⟨h1, h2⟩ := ba hp
      have := seqc (Q := fun r => r.out = true ∧ P r) rfl (of_decide_eq_true h1) h2 ⟨rfl, hP⟩ (.tup xs) rfl
      show wS C irPlain [.val (.tup xs), .non] _ X
      simp only [irPlain, wS, wT]
      refine ⟨by simp, ?_⟩
      simp only [readSl, List.getElem?_cons_zero, R.see, D.tyOf, isaAny, i2, i3, R.tru, wE]
      refine ⟨rfl, ?_⟩
      simpa only [wE] using this
  | _ => cases n <;> cases hp
end
end Dl

set_option Elab.async false
set_option linter.all false
set_option maxRecDepth 100000
set_option maxHeartbeats 4000000
/-! Dl: _law_plain at any depth, _law_is. -/
namespace Dl
open PySem PySem.Spec PyProof.Rows L2
theorem wEq_self {d : D} {p : PyData} {P : R → Prop} (h : d.py = some p) (ok : okP p = true) (hP : P (.val (.bl true))) : wEq false d d P := by
  obtain ⟨_, h2, h3, _⟩ := okP_ok ok
  have sh : SeqAt.shaped p = true := by
    unfold SeqAt.shaped
    rw [h2]
    simp
    omega
  have gen : ∃ p q, d.py = some p ∧ d.py = some q ∧ SeqAt.shaped p = true ∧ SeqAt.shaped q = true ∧ P (.val (.bl (false ^^ PyData.eqv p q))) := ⟨p, p, h, h, sh, sh, by rw [SeqAt.eqv_refl p h2]; simpa using hP⟩
  unfold wEq
  split
  · simpa using hP
  · simpa using hP
  · simpa using hP
  · exact gen
def fsIs : FS where
  ks := [.v, .v]
  sp as P _ := ∃ (d : D) (p : PyData), as = [.val d, .val d] ∧ d.plain 7 = true ∧ d.py = some p ∧ okP p = true ∧ P (.val (.bl true))
  mono := fun as P P' X X' f x ⟨d, p, h1, h2, h3, h4, h5⟩ => ⟨d, p, h1, h2, h3, h4, f _ h5⟩
def isN : List Str := ["found", "due"]
def irIs : St := .seq (.ret (.and_ (.call "_law_plain" (es1 (.var 0))) (.and_ (.cmp .eq (.var 0) (.var 1)) (.and_ (.cmp .eq (.var 1) (.var 0)) (.cmp .eq (.rpr (.var 0)) (.rpr (.var 1))))))) .skip
/-- the shorter form of some laws -/
def irIs2 : St := .seq (.ret (.and_ (.cmp .eq (.var 0) (.var 1)) (.and_ (.cmp .eq (.var 1) (.var 0)) (.cmp .eq (.rpr (.var 0)) (.rpr (.var 1)))))) .skip
section
variable {C : Ct}
theorem is_keeps (hf : C.fn "_law_plain" = some (fsPlain 7)) : Keeps C irIs isN ["found", "due"] fsIs := by
  rintro as P X ⟨d, p, rfl, hp, hy, ok, hP⟩
  refine ⟨rfl, ?_⟩
  show wS C irIs [.val d, .val d] _ X
  simp only [irIs, wS, wE, wEs, hf, readSl, List.getElem?_cons_zero, List.getElem?_cons_succ, wCall, fsPlain, asAll, R.as, R.dat, wCmp, R.see]
  refine ⟨d, rfl, hp, rfl, ?_⟩
  refine wEq_self hy ok ?_
  refine wEq_self hy ok ?_
  rw [hy]
  refine ⟨ok, ?_⟩
  refine ⟨ok, ?_⟩
  unfold wEq
  simp [R.out, hP]
theorem is_keeps2 : Keeps C irIs2 isN ["found", "due"] fsIs := by
  rintro as P X ⟨d, p, rfl, hp, hy, ok, hP⟩
  refine ⟨rfl, ?_⟩
  show wS C irIs2 [.val d, .val d] _ X
  simp only [irIs2, wS, wE, wEs, readSl, List.getElem?_cons_zero, List.getElem?_cons_succ, wCmp, R.see]
  refine wEq_self hy ok ?_
  refine wEq_self hy ok ?_
  rw [hy]
  refine ⟨ok, ?_⟩
  refine ⟨ok, ?_⟩
  unfold wEq
  simp [R.out, hP]
/-- a context with one def that it knows -/
def ctPlain (free : Str → Bool) : Nat → Ct
  | 0 => { isa := isaB, free := free }
  | n + 1 => { fn := fun x => if x = "_law_plain" then some (fsPlain n) else none, isa := isaB, free := free }
theorem ctPlain_isa {free : Str → Bool} {n : Nat} : IsaOk (ctPlain free n) := ⟨fun s t r h => by cases n <;> exact h⟩
theorem ctPlain_free {free : Str → Bool} {n : Nat} : (ctPlain free n).free = free := by cases n <;> rfl
theorem plain_tower {g : Gb} {qual nx : Str} {params : Arguments} {body : List Stmt} {scope : Scope} {a : Addr} {fd : FuncData} {free : Str → Bool} (F : FunD g.K nx qual params body scope [] [] a fd) (pl : plainArgs params = true) (hs : fnB plainN (pnm params) scope = true) (hp : pnm params = [("value" : Str)])
    (hc : chkS free ⟨scope, plainN, fun _ => true, false⟩ irPlain body = true) (hm : g.mg "_law_plain" = some (.ref a)) (hfree : ∀ x, free x = true → g.mg x = none) :
    ∀ n, FnR g.P g.w g.K g.mg g.base (L2.CX g.P g.w) (2 * (n + 1)) a (spOf g (fsPlain n) 0) := by
  have base : ∀ n k, CtOk g (ctPlain free n) k → FnR g.P g.w g.K g.mg g.base (L2.CX g.P g.w) (k + 2) a (spOf g (fsPlain n) 0) := fun n k ct => by
    have hcf : (ctPlain free n).cf "_law_plain" = 0 := by cases n <;> rfl
    refine def_okR F pl hs (by rw [ctPlain_free]; exact hc) ct ?_ ?_
    · have : costS (ctPlain free n) irPlain = 0 := by simp [irPlain, costS, costE, hcf]
      omega
    · rw [hp]
      exact plain_keeps ctPlain_isa (fun m e => by subst e; simp [ctPlain]) hcf
  intro n
  induction n with
  | zero =>
    refine base 0 0 ⟨fun x f h => (by cases h), fun x f h => (by cases h), fun x f h => (by cases h), fun c m f h => (by cases h), fun c m f h => (by cases h), fun c m h => (by cases h), fun s t r h => isaB_ok h, fun c f h => (by cases h), fun c h => (by cases h), fun x h => hfree x h, fun c v f h => (by cases h), fun c ks pm f h => (by cases h), fun c h => (by cases h)⟩
  | succ n ih =>
    refine base (n + 1) (2 * (n + 1)) ⟨fun x f h => ?_, fun x f h => (by cases h), fun x f h => (by cases h), fun c m f h => (by cases h), fun c m f h => (by cases h), fun c m h => (by cases h), fun s t r h => isaB_ok h, fun c f h => (by cases h), fun c h => (by cases h), fun x h => hfree x h, fun c v f h => (by cases h), fun c ks pm f h => (by cases h), fun c h => (by cases h)⟩
    simp only [ctPlain] at h
    split at h
    · rename_i e
      subst e
      cases h
      exact ⟨a, hm, F.kp, ih⟩
    · cases h
end
end Dl

set_option Elab.async false
set_option linter.all false
set_option maxRecDepth 100000
set_option maxHeartbeats 4000000
/-! Dl: a def with *v alone. -/
namespace Dl
open PySem PySem.Spec PyProof.Rows L2
/-- f(a, b, ..), all behind the star -/
def fsStar (f : FS) : FS where
  ks := [.v, .v, .v, .v]
  sp as P X := ∃ xs : List D, as = xs.map R.val ∧ xs.length ≤ 4 ∧ f.sp [.val (.tup xs)] P X
  mono := fun as P P' X X' h x ⟨xs, h1, h2, h3⟩ => ⟨xs, h1, h2, f.mono _ _ _ _ _ h x h3⟩
def starOnly (p : Arguments) (pv : Str) : Bool := p.posonlyargs.isEmpty && p.args.isEmpty && p.kwonlyargs.isEmpty && p.kwarg.isNone && (match p.vararg with | some a => a.arg == pv | none => false)
theorem args_vals {g : Gb} {st : Option StA} {S H : Hp} : ∀ {ks : List Kd} {xs : List D} {vs : List V}, (∀ k ∈ ks, k = .v) → ArgsR g st S H ks (xs.map R.val) vs → Reps g S xs vs
  | ks, [], vs, hk, h => by cases h; exact Reps.nil
  | ks, x :: xs, vs, hk, h => by
    cases h with
    | @cons k _ v ks _ vs a b =>
      have e := hk k (by simp)
      subst e
      exact Reps.cons a (args_vals (fun k hm => hk k (by simp [hm])) b)
section
variable {C : Ct} {g : Gb} {qual nx pv : Str} {params : Arguments} {body : List Stmt} {scope : Scope} {f : Addr} {fd : FuncData} {n b : Nat} {N : List Str} {ir : St} {fs : FS}
theorem bind_star {dV kV doc pm : Value} {an : Option Addr} {cdv ct : Value} {us rest : List Value} (hp : starOnly params pv = true) (hd : dV = .none) (hu : us.length = ([] : List Str).length) :
    bindArgs (PySem.W.fnOf nx qual params body scope dV kV doc pm an cdv ct) ⟨us ++ rest, []⟩ = (newTuple rest >>= fun t => pure ((([] : List Str).zip us) ++ [(pv, t)])) := by
  obtain ⟨pos, args, va, ko, kd, ka, df⟩ := params
  simp only [starOnly] at hp
  obtain ⟨hp, h5⟩ := ba hp
  obtain ⟨hp, h4⟩ := ba hp
  obtain ⟨hp, h3⟩ := ba hp
  obtain ⟨h1, h2⟩ := ba hp
  cases pos <;> try (cases h1; done)
  cases args <;> try (cases h2; done)
  cases ko <;> try (cases h3; done)
  cases ka <;> try (cases h4; done)
  cases va with
  | none => cases h5
  | some a =>
    have h5 := eq_of_beq h5
    have : us = [] := by cases us <;> first | rfl | cases hu
    subst this hd h5
    unfold bindArgs
    have e0 : seqItems? Value.none = pure none := rfl
    simp [PySem.W.fnOf, e0]
theorem star_okR (F : FunD g.K nx qual params body scope [] [] f fd) (hp : starOnly params pv = true) (hs : fnB N [pv] scope = true) (hc : chkS C.free ⟨scope, N, fun _ => true, false⟩ ir body = true) (ct : CtOk g C n) (hb : costS C ir ≤ b) (hk : Keeps C ir N [pv] fs) (hks : fs.ks = [.v]) :
    FnR g.P g.w g.K g.mg g.base (L2.CX g.P g.w) (n + 2) f (spOf g (fsStar fs) b) := by
  obtain ⟨oc, od, dV, kV, doc, pm, an, cdv, ctt, osl, rfl, lk, hcd, hD, _⟩ := F.ex
  have hd : dV = .none := by
    rcases hD with ⟨_, e⟩ | ⟨e, _⟩
    · exact e
    · exact absurd rfl e
  have sN : FnScope N (([] : List Str) ++ [pv]) scope := fnB_ok hs
  refine FnR.imp (StX.fn_star (sp := spOf g fs b) (k := n + 1) lk hcd sN StX.cxUp (fun us rest hu => bind_star hp hd hu) fun A outer s H vs Q E hr h => ?_) fun vs H Q E h => ?_
  · obtain ⟨st, S, as, o, lm, a, w⟩ := h
    have h3 := body_ok (qual := qual) (f := f) (cdv := cdv) (A := A) (outer := outer) (s := s) (EX := E) (gd := false) (fnB_ok hs) hc ct hr (fun z => by cases z) hb lm (env_start a) (Step.refl o) o (hk _ _ _ w).2 fun cls d H' ⟨x, S', s', r', q⟩ => q cls d H' S' s' r'
    refine ⟨RunSs _ body, pss_run, ?_⟩
    refine h3.mono ⟨?_, ?_, ?_, ?_⟩
    · rintro σ' H' ⟨S', δ', x', s', e', _, q⟩
      exact q .non H' S' s' (by simp only [RepR, Rep])
    · rintro v H' ⟨S', r, s', r', _, _, q⟩
      exact q v H' S' s' r'
    · rintro σ' H' ⟨S', δ', x', s', e', q⟩; exact q
    · rintro σ' H' ⟨S', δ', x', s', e', q⟩; exact q
  · obtain ⟨st, S, as, o, lm, a, xs, rfl, hl, w⟩ := h
    have rp := args_vals (fun k hm => by simp [fsStar] at hm; exact hm) a
    have hz : (4 : Nat) ≤ sizeLine := by rw [sizeLine_eq]; decide
    refine ⟨[], vs, rfl, rfl, by rw [rp.length]; omega, fun p hpn => ?_⟩
    have s1 := Step.new (u := HO.tup vs) o hpn
    refine ⟨st, _, [.val (.tup xs)], s1.ok, lm, by rw [hks]; exact .cons (by simp only [ArgR, Rep]; exact ⟨p, vs, rfl, SqT.of upd_same, Reps.mono s1.ext _ _ rp⟩) (.nil _), ?_⟩
    refine fs.mono _ _ _ _ _ (fun r ⟨h1, h2⟩ => ⟨h1, fun v H' S' s' r' => h2 v H' S' (s1.tr s') ((r'.since fun l e => Step.back o s1 e).h0 h1)⟩) (fun x hx cls d H' S' s' r' => hx cls d H' S' (s1.tr s') r') w
end
end Dl

set_option Elab.async false
set_option linter.all false
set_option maxRecDepth 100000
set_option maxHeartbeats 4000000
/-! Dl: contexts by a table of what is known. -/
namespace Dl
open PySem PySem.Spec PyProof.Rows L2
inductive Ky where | gl (x : Str) | me (c m : Str) | pr (c p : Str) | kw (c : Str) (ks : List Str) | vr (c v : Str)
  deriving DecidableEq
inductive Gk where | fn | fnG | ini
  deriving DecidableEq
structure En where
  k : Ky
  kd : Gk := .fn
  f : FS
  b : Nat := 0
  pm : List Nat := []
def look : List En → Ky → Option En
  | [], _ => none
  | e :: r, k => if e.k = k then some e else look r k
def ixOf : List En → Ky → Nat
  | [], _ => 0
  | e :: r, k => if e.k = k then 0 else ixOf r k + 1
theorem look_ix {T : List En} {k : Ky} {e : En} {i : Nat} (h1 : ixOf T k = i) (h2 : T[i]? = some e) : look T k = some e ∧ e.k = k := by
  induction T generalizing i with
  | nil => simp at h2
  | cons a T ih =>
    simp only [ixOf] at h1
    simp only [look]
    by_cases q : a.k = k
    · rw [if_pos q] at h1 ⊢
      subst h1
      simp at h2
      subst h2
      exact ⟨rfl, q⟩
    · rw [if_neg q] at h1 ⊢
      subst h1
      exact ih rfl (by simpa using h2)
theorem look_mem {T : List En} {k : Ky} {e : En} (h : look T k = some e) : e ∈ T ∧ e.k = k := by
  induction T with
  | nil => cases h
  | cons a T ih =>
    simp only [look] at h
    by_cases q : a.k = k
    · rw [if_pos q] at h; cases h; exact ⟨by simp, q⟩
    · rw [if_neg q] at h; exact ⟨by simp [(ih h).1], (ih h).2⟩
/-- what is the same at all levels -/
structure Ba where
  gc : Str → Option Cst := fun _ => none
  isa : Ty → Ty → Option Bool := isaB
  fld : Str → Str → Bool := fun _ _ => false
  cls : Str → Bool := fun _ => false
  free : Str → Bool := fun _ => false
  own : Str → Bool := fun _ => false
def pick (kd : Gk) : Option En → Option FS
  | some e => if e.kd = kd then some e.f else none
  | none => none
def cost : Option En → Nat
  | some e => e.b
  | none => 0
def ctOf (B : Ba) (T : List En) : Ct where
  fn x := pick .fn (look T (.gl x))
  fnG x := pick .fnG (look T (.gl x))
  ini x := pick .ini (look T (.gl x))
  me c m := pick .fn (look T (.me c m))
  pr c p := pick .fn (look T (.pr c p))
  gc := B.gc
  isa := B.isa
  fld := B.fld
  cls := B.cls
  free := B.free
  cf x := cost (look T (.gl x))
  cm c m := cost (look T (.me c m))
  own := B.own
  inK c ks := match look T (.kw c ks) with
    | some e => some (e.pm, e.f)
    | none => none
  ck c ks := cost (look T (.kw c ks))
  iniV c v := pick .fn (look T (.vr c v))
  cv c v := cost (look T (.vr c v))
structure BaOk (g : Gb) (B : Ba) : Prop where
  gc : ∀ x c, B.gc x = some c → ∃ u, g.mg x = some u ∧ RelV c.v u
  isa : ∀ s t r, B.isa s t = some r → PySem.W.kitOne g.K (tyV g s) (tyV g t) = some r
  fld : ∀ c f, B.fld c f = true → Cls g.K (g.cl c) ∧ NoAttr g.K (g.cl c) f
  cls : ∀ c, B.cls c = true → InsOk g.K (g.cl c) ∧ g.mg c = some (.ref (g.cl c))
  free : ∀ x, B.free x = true → g.mg x = none
  own : ∀ c, B.own c = true → PySem.W.selfFirst g.K (g.cl c) = true ∧ PySem.W.findIn g.K (.ref (g.cl c)) "__ne__" = some (some (.builtin "object.__ne__")) ∧ PySem.W.mroIn g.K (g.cl c) (.type "object") = some true
/-- what an entry promises -/
def Ob (g : Gb) (k : Nat) (e : En) : Prop := match e.k with
  | .gl x => (match e.kd with
    | .fn => ∃ a, g.mg x = some (.ref a) ∧ PySem.W.keepIn g.K (.ref a) = true ∧ FnR g.P g.w g.K g.mg g.base (L2.CX g.P g.w) k a (spOf g e.f e.b)
    | .fnG => ∃ a, g.mg x = some (.ref a) ∧ PySem.W.keepIn g.K (.ref a) = true ∧ FnG g.P g.w g.K g.mg g.base (L2.CX g.P g.w) k a (spOf g e.f e.b)
    | .ini => ∃ a, g.mg x = some (.ref (g.cl x)) ∧ Mk g.K (g.cl x) a ∧ FnR g.P g.w g.K g.mg g.base (L2.CX g.P g.w) k a (spIni g x e.f e.b))
  | .me c m => ∃ a, Cls g.K (g.cl c) ∧ Meth g.K (g.cl c) m a ∧ FnR g.P g.w g.K g.mg g.base (L2.CX g.P g.w) k a (spOf g e.f e.b)
  | .pr c p => ∃ q a fd ps, Cls g.K (g.cl c) ∧ PropOf g.K (g.cl c) p q a ∧ FnOk g.P g.w g.K g.mg g.base (L2.CX g.P g.w) k a fd ps (spOf g e.f 0) ∧ Binds g.K fd ps []
  | .kw c ks => ∃ a fd ps gg gV, g.mg c = some (.ref (g.cl c)) ∧ Mk g.K (g.cl c) a ∧ FnOk g.P g.w g.K g.mg g.base (L2.CX g.P g.w) k a fd ps (spIni g c e.f e.b) ∧ KBn g.K fd ps 1 ks gg gV ∧ ∀ x zs, gV [x] zs = x :: permL e.pm zs
  | .vr c v => ∃ a, g.mg c = some (.ref (g.cl c)) ∧ Mk g.K (g.cl c) a ∧ FnR g.P g.w g.K g.mg g.base (L2.CX g.P g.w) k a (spIni g c e.f e.b)
theorem FnG.mono {P : Program} {w : World} {K : PySem.W.Frag} {mg : Str → Option Value} {base : Heap} {CX : CXT} {j k : Nat} {f : Addr} {sp : Sp} (F : FnG P w K mg base CX j f sp) (h : j ≤ k) : FnG P w K mg base CX k f sp := fun A outer s H us vs Q E hr => F A outer s H us vs Q E (hr.mono h)
theorem Ob.up {g : Gb} {j k : Nat} {e : En} (h : Ob g j e) (l : j ≤ k) : Ob g k e := by
  unfold Ob at h ⊢
  split at h
  · split at h
    · obtain ⟨a, h1, h2, h3⟩ := h; exact ⟨a, h1, h2, h3.mono l⟩
    · obtain ⟨a, h1, h2, h3⟩ := h; exact ⟨a, h1, h2, h3.mono l⟩
    · obtain ⟨a, h1, h2, h3⟩ := h; exact ⟨a, h1, h2, h3.mono l⟩
  · obtain ⟨a, h1, h2, h3⟩ := h; exact ⟨a, h1, h2, h3.mono l⟩
  · obtain ⟨q, a, fd, ps, h1, h2, h3, h4⟩ := h; exact ⟨q, a, fd, ps, h1, h2, h3.mono l, h4⟩
  · obtain ⟨a, fd, ps, gg, gV, h1, h2, h3, h4, h5⟩ := h; exact ⟨a, fd, ps, gg, gV, h1, h2, h3.mono l, h4, h5⟩
  · obtain ⟨a, h1, h2, h3⟩ := h; exact ⟨a, h1, h2, h3.mono l⟩
theorem pick_ok {kd : Gk} {o : Option En} {f : FS} (h : pick kd o = some f) : ∃ e, o = some e ∧ e.kd = kd ∧ e.f = f := by
  cases o with
  | none => cases h
  | some e =>
    simp only [pick] at h
    by_cases q : e.kd = kd
    · rw [if_pos q] at h; cases h; exact ⟨e, rfl, q, rfl⟩
    · rw [if_neg q] at h; cases h
def TOk (g : Gb) (k : Nat) (T : List En) : Prop := ∀ e ∈ T, Ob g k e
theorem TOk.nil {g : Gb} {k : Nat} : TOk g k [] := fun e h => by cases h
theorem TOk.cons {g : Gb} {j k : Nat} {e : En} {T : List En} (h : TOk g j T) (o : Ob g k e) (l : j ≤ k) : TOk g k (e :: T) := fun e' h' => by
  rcases List.mem_cons.mp h' with rfl | h'
  · exact o
  · exact (h e' h').up l
theorem ct_ok {g : Gb} {k : Nat} {B : Ba} {T : List En} (hb : BaOk g B) (h : TOk g k T) : CtOk g (ctOf B T) k where
  fn x f e := by
    obtain ⟨en, h1, h2, h3⟩ := pick_ok e
    obtain ⟨m1, m2⟩ := look_mem h1
    have z := h en m1
    subst h3
    simp only [Ob, m2, h2] at z
    show ∃ a, _ ∧ _ ∧ FnR _ _ _ _ _ _ _ _ (spOf g en.f (cost (look T (.gl x))))
    rw [h1]; exact z
  fnG x f e := by
    obtain ⟨en, h1, h2, h3⟩ := pick_ok e
    obtain ⟨m1, m2⟩ := look_mem h1
    have z := h en m1
    subst h3
    simp only [Ob, m2, h2] at z
    show ∃ a, _ ∧ _ ∧ FnG _ _ _ _ _ _ _ _ (spOf g en.f (cost (look T (.gl x))))
    rw [h1]; exact z
  ini x f e := by
    obtain ⟨en, h1, h2, h3⟩ := pick_ok e
    obtain ⟨m1, m2⟩ := look_mem h1
    have z := h en m1
    subst h3
    simp only [Ob, m2, h2] at z
    show ∃ a, _ ∧ _ ∧ FnR _ _ _ _ _ _ _ _ (spIni g x en.f (cost (look T (.gl x))))
    rw [h1]; exact z
  me c m f e := by
    obtain ⟨en, h1, h2, h3⟩ := pick_ok e
    obtain ⟨m1, m2⟩ := look_mem h1
    have z := h en m1
    subst h3
    simp only [Ob, m2, h2] at z
    show ∃ a, _ ∧ _ ∧ FnR _ _ _ _ _ _ _ _ (spOf g en.f (cost (look T (.me c m))))
    rw [h1]; exact z
  pr c p f e := by
    obtain ⟨en, h1, h2, h3⟩ := pick_ok e
    obtain ⟨m1, m2⟩ := look_mem h1
    have z := h en m1
    subst h3
    simp only [Ob, m2, h2] at z
    exact z
  iniV c v f e := by
    obtain ⟨en, h1, h2, h3⟩ := pick_ok e
    obtain ⟨m1, m2⟩ := look_mem h1
    have z := h en m1
    subst h3
    simp only [Ob, m2] at z
    show ∃ a, _ ∧ _ ∧ FnR _ _ _ _ _ _ _ _ (spIni g c en.f (cost (look T (.vr c v))))
    rw [h1]; exact z
  inK c ks pm f e := by
    have e : (match look T (.kw c ks) with | some e => some (e.pm, e.f) | none => none) = some (pm, f) := e
    cases q : look T (.kw c ks) with
    | none => rw [q] at e; cases e
    | some en =>
      rw [q] at e
      cases e
      obtain ⟨m1, m2⟩ := look_mem q
      have z := h en m1
      simp only [Ob, m2] at z
      show ∃ a fd ps gg gV, _ ∧ _ ∧ FnOk _ _ _ _ _ _ _ _ _ _ (spIni g c en.f (cost (look T (.kw c ks)))) ∧ _ ∧ _
      rw [q]; exact z
  gc := hb.gc
  isa := hb.isa
  fld := hb.fld
  cls := hb.cls
  free := hb.free
  own := hb.own
/-- what a context knows -/
def Has (C : Ct) (e : En) : Prop := match e.k with
  | .gl x => (match e.kd with | .fn => C.fn x = some e.f | .fnG => C.fnG x = some e.f | .ini => C.ini x = some e.f) ∧ C.cf x = e.b
  | .me c m => C.me c m = some e.f ∧ C.cm c m = e.b
  | .pr c p => C.pr c p = some e.f
  | .kw c ks => C.inK c ks = some (e.pm, e.f) ∧ C.ck c ks = e.b
  | .vr c v => C.iniV c v = some e.f ∧ C.cv c v = e.b
theorem has_of {B : Ba} {T : List En} {e : En} (i : Nat) (h1 : ixOf T e.k = i) (h2 : T[i]? = some e) (h3 : match e.k with | .gl _ => True | _ => e.kd = .fn) : Has (ctOf B T) e := by
  obtain ⟨l, _⟩ := look_ix h1 h2
  unfold Has
  split
  · rename_i x q
    rw [q] at l
    refine ⟨?_, by show cost (look T (.gl x)) = _; rw [l]; rfl⟩
    split
    · rename_i q2; show pick .fn (look T (.gl x)) = _; rw [l]; simp [pick, q2]
    · rename_i q2; show pick .fnG (look T (.gl x)) = _; rw [l]; simp [pick, q2]
    · rename_i q2; show pick .ini (look T (.gl x)) = _; rw [l]; simp [pick, q2]
  · rename_i c m q
    rw [q] at l h3
    refine ⟨?_, by show cost (look T (.me c m)) = _; rw [l]; rfl⟩
    show pick .fn (look T (.me c m)) = _; rw [l]; simp [pick, h3]
  · rename_i c m q
    rw [q] at l h3
    show pick .fn (look T (.pr c m)) = _; rw [l]; simp [pick, h3]
  · rename_i c m q
    rw [q] at l
    exact ⟨by show (match look T (.kw c m) with | some e => some (e.pm, e.f) | none => none) = _; rw [l], by show cost (look T (.kw c m)) = _; rw [l]; rfl⟩
  · rename_i c m q
    rw [q] at l h3
    refine ⟨?_, by show cost (look T (.vr c m)) = _; rw [l]; rfl⟩
    show pick .fn (look T (.vr c m)) = _; rw [l]; simp [pick, h3]
end Dl

set_option Elab.async false
set_option linter.all false
set_option maxRecDepth 100000
set_option maxHeartbeats 4000000
/-! Dl: a law's head: what is read off it; the tower of its defs. -/
namespace Dl
open PySem PySem.Spec PyProof.Rows L2
def tyEq : Ty → Ty → Bool
  | .b a, .b c => decide (a = c)
  | .c a, .c b => decide (a = b)
  | _, _ => false
theorem tyEq_ok {a b : Ty} (h : tyEq a b = true) : a = b := by
  cases a <;> cases b <;> simp [tyEq] at h
  · rw [h]
  · rw [h]
def lookI : List (Ty × Ty × Bool) → Ty → Ty → Option Bool
  | [], _, _ => none
  | (a, b, r) :: t, x, y => if tyEq a x && tyEq b y then some r else lookI t x y
theorem lookI_mem {L : List (Ty × Ty × Bool)} {x y : Ty} {r : Bool} (h : lookI L x y = some r) : (x, y, r) ∈ L := by
  induction L with
  | nil => cases h
  | cons e L ih =>
    obtain ⟨a, b, q⟩ := e
    simp only [lookI] at h
    by_cases z : (tyEq a x && tyEq b y) = true
    · rw [if_pos z] at h
      obtain ⟨z1, z2⟩ := ba z
      have e1 := tyEq_ok z1
      have e2 := tyEq_ok z2
      subst e1 e2
      cases h
      simp
    · rw [if_neg z] at h
      exact List.mem_cons_of_mem _ (ih h)
def lookG : List (Str × Int) → Str → Option Cst
  | [], _ => none
  | (a, i) :: t, x => if a = x then some (.int i) else lookG t x
theorem lookG_mem {L : List (Str × Int)} {x : Str} {c : Cst} (h : lookG L x = some c) : ∃ i, c = .int i ∧ (x, i) ∈ L := by
  induction L with
  | nil => cases h
  | cons e L ih =>
    obtain ⟨a, q⟩ := e
    simp only [lookG] at h
    by_cases z : a = x
    · rw [if_pos z] at h
      subst z
      cases h
      exact ⟨q, rfl, by simp⟩
    · rw [if_neg z] at h
      obtain ⟨i, e, m⟩ := ih h
      exact ⟨i, e, List.mem_cons_of_mem _ m⟩
def inS : List Str → Str → Bool
  | [], _ => false
  | a :: t, x => decide (a = x) || inS t x
theorem inS_mem {L : List Str} {x : Str} (h : inS L x = true) : x ∈ L := by
  induction L with
  | nil => cases h
  | cons a L ih =>
    simp only [inS, Bool.or_eq_true, decide_eq_true_eq] at h
    rcases h with rfl | h
    · simp
    · exact List.mem_cons_of_mem _ (ih h)
def inP : List (Str × Str) → Str → Str → Bool
  | [], _, _ => false
  | (a, b) :: t, x, y => (decide (a = x) && decide (b = y)) || inP t x y
theorem inP_mem {L : List (Str × Str)} {x y : Str} (h : inP L x y = true) : (x, y) ∈ L := by
  induction L with
  | nil => cases h
  | cons e L ih =>
    obtain ⟨a, b⟩ := e
    simp only [inP, Bool.or_eq_true, Bool.and_eq_true, decide_eq_true_eq] at h
    rcases h with ⟨rfl, rfl⟩ | h
    · simp
    · exact List.mem_cons_of_mem _ (ih h)
/-- what is read off a law's head -/
structure Head where
  glo : List Str
  nums : List (Str × Int)
  free : List Str
  cls : List Str
  mth : List (Str × Str)
  prp : List (Str × Str)
  fld : List (Str × Str)
  isa : List (Ty × Ty × Bool)
def Head.fa (h : Head) : List Ft :=
  h.glo.map (fun x => .fa (.glo x)) ++ (h.nums.map (fun e => .fa (.int e.1 e.2)) ++ (h.free.map (fun x => .fa (.free x)) ++ (h.cls.map (fun c => .fa (.cls c)) ++ (h.cls.map (fun c => .fa (.mkr c)) ++ (h.cls.map Ft.ins ++ (h.cls.map Ft.own ++
  (h.mth.map (fun e => .fa (.meth e.1 e.2)) ++ (h.prp.map (fun e => .prp e.1 e.2) ++ (h.fld.map (fun e => .fa (.noat e.1 e.2)) ++ h.isa.map (fun e => .isa e.1 e.2.1 e.2.2))))))))))
def Head.ba (h : Head) : Ba where
  gc := lookG h.nums
  isa s t := match isaB s t with
    | some r => some r
    | none => lookI h.isa s t
  fld := inP h.fld
  cls := inS h.cls
  free := inS h.free
  own := inS h.cls
def gb (P : Program) (w : World) (K : PySem.W.Frag) (mg : Str → Option Value) (base : Heap) : Gb := { P := P, w := w, K := K, mg := mg, base := base, cl := fun c => He.ga K c }
section
variable {P : Program} {w : World} {K : PySem.W.Frag} {h base : Heap} {mg : Str → Option Value} {hd : Head} {fn : List Df}
theorem Head.glo_ok (X : K.In h) (G : h.Ns mainGlobals mg) (c : SaysX hd.fa fn K) {x : Str} (m : x ∈ hd.glo) : mg x = some (.ref (He.ga K x)) :=
  He.glo_ok X G (c.mem (f := .fa (.glo x)) (by simp only [Head.fa, List.mem_append, List.mem_map]; exact .inl ⟨x, m, rfl⟩))
theorem Head.ok (X : K.In h) (G : h.Ns mainGlobals mg) (c : SaysX hd.fa fn K) (hg : ∀ y ∈ hd.cls, y ∈ hd.glo) (hf : ∀ e ∈ hd.fld, e.1 ∈ hd.cls) : BaOk (gb P w K mg base) hd.ba where
  gc x k e := by
    obtain ⟨i, rfl, m⟩ := lookG_mem e
    obtain ⟨t, q⟩ := He.int_ok X G (c.mem (f := .fa (.int x i)) (by simp only [Head.fa, List.mem_append, List.mem_map]; exact .inr (.inl ⟨_, m, rfl⟩)))
    exact ⟨_, q, t, rfl⟩
  isa s t r e := by
    have e : (match isaB s t with | some r => some r | none => lookI hd.isa s t) = some r := e
    cases q : isaB s t with
    | some r' =>
      rw [q] at e
      cases e
      exact isaB_ok q
    | none =>
      rw [q] at e
      have m := lookI_mem e
      have z := isa_ok (c.mem (f := .isa s t r) (by simp only [Head.fa, List.mem_append, List.mem_map]; exact .inr (.inr (.inr (.inr (.inr (.inr (.inr (.inr (.inr (.inr ⟨_, m, rfl⟩))))))))) ))
      cases s <;> cases t <;> exact z
  fld y f e := by
    have m := inP_mem e
    have m2 := hf _ m
    refine ⟨He.cls_ok (c.mem (f := .fa (.cls y)) ?_), He.noat_ok (c.mem (f := .fa (.noat y f)) ?_)⟩
    · simp only [Head.fa, List.mem_append, List.mem_map]; exact .inr (.inr (.inr (.inl ⟨_, m2, rfl⟩)))
    · simp only [Head.fa, List.mem_append, List.mem_map]; exact .inr (.inr (.inr (.inr (.inr (.inr (.inr (.inr (.inr (.inl ⟨_, m, rfl⟩)))))))))
  cls y e := by
    have m := inS_mem e
    refine ⟨ins_ok (c.mem (f := .ins y) ?_), Head.glo_ok X G c (hg _ m)⟩
    simp only [Head.fa, List.mem_append, List.mem_map]; exact .inr (.inr (.inr (.inr (.inr (.inl ⟨_, m, rfl⟩)))))
  free x e := by
    have m := inS_mem e
    exact He.free_ok X G (c.mem (f := .fa (.free x)) (by simp only [Head.fa, List.mem_append, List.mem_map]; exact .inr (.inr (.inl ⟨_, m, rfl⟩))))
  own y e := by
    have m := inS_mem e
    refine own_ok (c.mem (f := .own y) ?_)
    simp only [Head.fa, List.mem_append, List.mem_map]; exact .inr (.inr (.inr (.inr (.inr (.inr (.inl ⟨_, m, rfl⟩))))))
theorem Head.mk_ok (c : SaysX hd.fa fn K) {y : Str} (m : y ∈ hd.cls) : Mk K (He.ga K y) (He.ma K (He.ga K y) "__init__") :=
  He.mkr_ok (c.mem (f := .fa (.mkr y)) (by simp only [Head.fa, List.mem_append, List.mem_map]; exact .inr (.inr (.inr (.inr (.inl ⟨_, m, rfl⟩))))))
theorem Head.cls_ok (c : SaysX hd.fa fn K) {y : Str} (m : y ∈ hd.cls) : Cls K (He.ga K y) :=
  He.cls_ok (c.mem (f := .fa (.cls y)) (by simp only [Head.fa, List.mem_append, List.mem_map]; exact .inr (.inr (.inr (.inl ⟨_, m, rfl⟩)))))
theorem Head.me_ok (c : SaysX hd.fa fn K) {y m : Str} (q : (y, m) ∈ hd.mth) : Meth K (He.ga K y) m (He.ma K (He.ga K y) m) :=
  He.meth_ok (c.mem (f := .fa (.meth y m)) (by simp only [Head.fa, List.mem_append, List.mem_map]; exact .inr (.inr (.inr (.inr (.inr (.inr (.inr (.inl ⟨_, q, rfl⟩)))))))))
theorem Head.pr_ok (c : SaysX hd.fa fn K) {y f : Str} (q : (y, f) ∈ hd.prp) : ∃ p, PropOf K (He.ga K y) f p (prA K (He.ga K y) f) :=
  prp_ok (c.mem (f := .prp y f) (by simp only [Head.fa, List.mem_append, List.mem_map]; exact .inr (.inr (.inr (.inr (.inr (.inr (.inr (.inr (.inl ⟨_, q, rfl⟩))))))))))
end
theorem gc_of {L : List (Str × Int)} {x : Str} {i : Int} (h : (match lookG L x with | some (.int j) => decide (j = i) | _ => false) = true) : lookG L x = some (.int i) := by
  split at h
  · rename_i j e
    rw [e, of_decide_eq_true h]
  · cases h
/-! ### a def of the tower -/
/-- the text of a def is checked -/
def defB (d : Df) (N ps : List Str) (ir : St) (free : Str → Bool) (gd : Bool) : Bool := plainArgs (defArgs d.st) && (decide (pnm (defArgs d.st) = ps) && (fnB N ps (defScope d.st) && chkS free ⟨defScope d.st, N, fun _ => true, gd⟩ ir (defBody d.st)))
section
variable {P : Program} {w : World} {K : PySem.W.Frag} {h base : Heap} {mg : Str → Option Value} {hd : Head} {fn : List Df} {d : Df} {fd : FuncData} {N ps : List Str} {ir : St} {T : List En} {n b : Nat} {fs : FS}
theorem ob_gl {x : Str} (F : FunDf K d fd) (hD : d.at_ = .gl x) (hg : mg x = some (.ref (He.ga K x))) (c : defB d N ps ir hd.ba.free false = true) (B : BaOk (gb P w K mg base) hd.ba) (t : TOk (gb P w K mg base) n T) (hb : costS (ctOf hd.ba T) ir ≤ b) (k : Keeps (ctOf hd.ba T) ir N ps fs) :
    Ob (gb P w K mg base) (n + 2) ⟨.gl x, .fn, fs, b, []⟩ := by
  obtain ⟨c1, c⟩ := ba c
  obtain ⟨c2, c⟩ := ba c
  obtain ⟨c3, c4⟩ := ba c
  have c2 := of_decide_eq_true c2
  subst c2
  have F : FunD (gb P w K mg base).K d.name d.qual (defArgs d.st) (defBody d.st) (defScope d.st) [] [] (d.at_.ad K) fd := F
  rw [hD] at F
  exact ⟨_, hg, F.kp, def_okR F c1 c3 c4 (ct_ok B t) hb k⟩
theorem ob_star {x pv : Str} (F : FunDf K d fd) (hD : d.at_ = .gl x) (hg : mg x = some (.ref (He.ga K x))) (c : (starOnly (defArgs d.st) pv && (fnB N [pv] (defScope d.st) && chkS hd.ba.free ⟨defScope d.st, N, fun _ => true, false⟩ ir (defBody d.st))) = true) (B : BaOk (gb P w K mg base) hd.ba) (t : TOk (gb P w K mg base) n T) (hb : costS (ctOf hd.ba T) ir ≤ b) (k : Keeps (ctOf hd.ba T) ir N [pv] fs) (hks : fs.ks = [.v]) :
    Ob (gb P w K mg base) (n + 2) ⟨.gl x, .fn, fsStar fs, b, []⟩ := by
  obtain ⟨c1, c⟩ := ba c
  obtain ⟨c3, c4⟩ := ba c
  have F : FunD (gb P w K mg base).K d.name d.qual (defArgs d.st) (defBody d.st) (defScope d.st) [] [] (d.at_.ad K) fd := F
  rw [hD] at F
  exact ⟨_, hg, F.kp, star_okR F c1 c3 c4 (ct_ok B t) hb k hks⟩
theorem ob_glG {x : Str} (F : FunDf K d fd) (hD : d.at_ = .gl x) (hg : mg x = some (.ref (He.ga K x))) (c : defB d N ps ir hd.ba.free true = true) (B : BaOk (gb P w K mg base) hd.ba) (t : TOk (gb P w K mg base) n T) (hb : costS (ctOf hd.ba T) ir ≤ b) (k : Keeps (ctOf hd.ba T) ir N ps fs) :
    Ob (gb P w K mg base) (n + 2) ⟨.gl x, .fnG, fs, b, []⟩ := by
  obtain ⟨c1, c⟩ := ba c
  obtain ⟨c2, c⟩ := ba c
  obtain ⟨c3, c4⟩ := ba c
  have c2 := of_decide_eq_true c2
  subst c2
  have F : FunD (gb P w K mg base).K d.name d.qual (defArgs d.st) (defBody d.st) (defScope d.st) [] [] (d.at_.ad K) fd := F
  rw [hD] at F
  exact ⟨_, hg, F.kp, def_okG F c1 c3 c4 (ct_ok B t) hb k⟩
theorem ob_ini {y : Str} (F : FunDf K d fd) (hD : d.at_ = .me y "__init__") (hg : mg y = some (.ref (He.ga K y))) (mk : Mk K (He.ga K y) (He.ma K (He.ga K y) "__init__")) (c : defB d N ps ir hd.ba.free false = true) (B : BaOk (gb P w K mg base) hd.ba) (t : TOk (gb P w K mg base) n T) (hb : costS (ctOf hd.ba T) ir ≤ b) (k : KeepsI (ctOf hd.ba T) ir N ps y fs) :
    Ob (gb P w K mg base) (n + 2) ⟨.gl y, .ini, fs, b, []⟩ := by
  obtain ⟨c1, c⟩ := ba c
  obtain ⟨c2, c⟩ := ba c
  obtain ⟨c3, c4⟩ := ba c
  have c2 := of_decide_eq_true c2
  subst c2
  have F : FunD (gb P w K mg base).K d.name d.qual (defArgs d.st) (defBody d.st) (defScope d.st) [] [] (d.at_.ad K) fd := F
  rw [hD] at F
  exact ⟨_, hg, mk, ini_okR F c1 c3 c4 (ct_ok B t) hb k⟩
/-- a class by another promise -/
theorem ob_vr {y v : Str} (F : FunDf K d fd) (hD : d.at_ = .me y "__init__") (hg : mg y = some (.ref (He.ga K y))) (mk : Mk K (He.ga K y) (He.ma K (He.ga K y) "__init__")) (c : defB d N ps ir hd.ba.free false = true) (B : BaOk (gb P w K mg base) hd.ba) (t : TOk (gb P w K mg base) n T) (hb : costS (ctOf hd.ba T) ir ≤ b) (k : KeepsI (ctOf hd.ba T) ir N ps y fs) :
    Ob (gb P w K mg base) (n + 2) ⟨.vr y v, .fn, fs, b, []⟩ := by
  obtain ⟨c1, c⟩ := ba c
  obtain ⟨c2, c⟩ := ba c
  obtain ⟨c3, c4⟩ := ba c
  have c2 := of_decide_eq_true c2
  subst c2
  have F : FunD (gb P w K mg base).K d.name d.qual (defArgs d.st) (defBody d.st) (defScope d.st) [] [] (d.at_.ad K) fd := F
  rw [hD] at F
  exact ⟨_, hg, mk, ini_okR F c1 c3 c4 (ct_ok B t) hb k⟩
/-- a class called by keywords alone -/
theorem ob_kw {y : Str} {ks : List Str} {pm : List Nat} (F : FunDf K d fd) (hD : d.at_ = .me y "__init__") (hg : mg y = some (.ref (He.ga K y))) (mk : Mk K (He.ga K y) (He.ma K (He.ga K y) "__init__")) (c : defB d N ps ir hd.ba.free false = true) (B : BaOk (gb P w K mg base) hd.ba) (t : TOk (gb P w K mg base) n T) (hb : costS (ctOf hd.ba T) ir ≤ b) (k : KeepsI (ctOf hd.ba T) ir N ps y fs)
    (hk : ∀ (kV doc pmv : Value) (an : Option Addr) (cdv ct u : Value) (ws : List Value), ws.length = ks.length → bindArgs (PySem.W.fnOf d.name d.qual (defArgs d.st) (defBody d.st) (defScope d.st) .none kV doc pmv an cdv ct) ⟨[u], ks.zip ws⟩ = pure (ps.zip (u :: permL pm ws)))
    (hl : pm.all (fun i => decide (i < ks.length)) = true) : Ob (gb P w K mg base) (n + 2) ⟨.kw y ks, .fn, fs, b, pm⟩ := by
  obtain ⟨c1, c⟩ := ba c
  obtain ⟨c2, c⟩ := ba c
  obtain ⟨c3, c4⟩ := ba c
  have c2 := of_decide_eq_true c2
  subst c2
  have F : FunD (gb P w K mg base).K d.name d.qual (defArgs d.st) (defBody d.st) (defScope d.st) [] [] (d.at_.ad K) fd := F
  rw [hD] at F
  have ok := ini_okN F c1 c3 c4 (ct_ok B t) hb k
  obtain ⟨oc, od, dV, kV, doc, pmv, an, cdv, ctt, osl, rfl, lk, hcd, hDf, _⟩ := F.ex
  have hdv : dV = .none := by
    rcases hDf with ⟨_, e⟩ | ⟨e, _⟩
    · exact e
    · exact absurd rfl e
  subst hdv
  refine ⟨_, _, _, (fun us ws => us ++ permL pm ws), (fun vs zs => vs ++ permL pm zs), hg, mk, ok, ⟨fun s us ws KX h1 h2 => ?_, fun {vs us zs ws} r1 r2 => ?_⟩, fun x zs => rfl⟩
  · match us, h1 with
    | [u], _ =>
      have e := hk kV doc pmv an cdv ctt u ws h2
      exact BindsTo.of_looks fun M => by rw [e]; exact PySem.W.Looks.of_pure rfl
  · have get : ∀ {zs : List V} {ws : List Value}, Vals zs ws → ∀ i : Nat, (∃ z w, zs[i]? = some z ∧ ws[i]? = some w ∧ RelV z w) ∨ (zs[i]? = none ∧ ws[i]? = none) := by
      intro zs ws h
      induction h with
      | nil => intro i; exact .inr ⟨by simp, by simp⟩
      | cons a b ih =>
        intro i
        cases i with
        | zero => exact .inl ⟨_, _, rfl, rfl, a⟩
        | succ i => simpa using ih i
    have per : ∀ pm : List Nat, Vals (permL pm zs) (permL pm ws) := by
      intro pm
      unfold permL
      induction pm with
      | nil => exact .nil
      | cons i pm ih =>
        rcases get r2 i with ⟨z, w, e1, e2, q⟩ | ⟨e1, e2⟩
        · rw [List.filterMap_cons_some e1, List.filterMap_cons_some e2]; exact .cons q ih
        · rw [List.filterMap_cons_none e1, List.filterMap_cons_none e2]; exact ih
    exact r1.append (per pm)
theorem ob_me {y m : Str} (F : FunDf K d fd) (hD : d.at_ = .me y m) (hc : Cls K (He.ga K y)) (hm : Meth K (He.ga K y) m (He.ma K (He.ga K y) m)) (c : defB d N ps ir hd.ba.free false = true) (B : BaOk (gb P w K mg base) hd.ba) (t : TOk (gb P w K mg base) n T) (hb : costS (ctOf hd.ba T) ir ≤ b) (k : Keeps (ctOf hd.ba T) ir N ps fs) :
    Ob (gb P w K mg base) (n + 2) ⟨.me y m, .fn, fs, b, []⟩ := by
  obtain ⟨c1, c⟩ := ba c
  obtain ⟨c2, c⟩ := ba c
  obtain ⟨c3, c4⟩ := ba c
  have c2 := of_decide_eq_true c2
  subst c2
  have F : FunD (gb P w K mg base).K d.name d.qual (defArgs d.st) (defBody d.st) (defScope d.st) [] [] (d.at_.ad K) fd := F
  rw [hD] at F
  exact ⟨_, hc, hm, def_okR F c1 c3 c4 (ct_ok B t) hb k⟩
theorem ob_pr {y m : Str} (F : FunDf K d fd) (hD : d.at_ = .pr y m) (hc : Cls K (He.ga K y)) (hm : ∃ p, PropOf K (He.ga K y) m p (prA K (He.ga K y) m)) (c : defB d N ps ir hd.ba.free false = true) (B : BaOk (gb P w K mg base) hd.ba) (t : TOk (gb P w K mg base) n T) (hb : costS (ctOf hd.ba T) ir ≤ 0) (k : Keeps (ctOf hd.ba T) ir N ps fs) :
    Ob (gb P w K mg base) (n + 2) ⟨.pr y m, .fn, fs, 0, []⟩ := by
  obtain ⟨c1, c⟩ := ba c
  obtain ⟨c2, c⟩ := ba c
  obtain ⟨c3, c4⟩ := ba c
  have c2 := of_decide_eq_true c2
  subst c2
  have F : FunD (gb P w K mg base).K d.name d.qual (defArgs d.st) (defBody d.st) (defScope d.st) [] [] (d.at_.ad K) fd := F
  rw [hD] at F
  obtain ⟨p, hm⟩ := hm
  exact ⟨p, _, fd, _, hc, hm, def_ok F c3 c4 (ct_ok B t) hb k, def_bind F c1 c3⟩
/-- the draws -/
theorem ob_draw {p q r z : Int} {dm dd : Df} {fm fdd : FuncData} (Fm : FunDf K dm fm) (hm : dm.at_ = .gl "_law_mixed") (Fd : FunDf K dd fdd) (hd' : dd.at_ = .gl "_law_draw") (gm : mg "_law_mixed" = some (.ref (He.ga K "_law_mixed"))) (gd : mg "_law_draw" = some (.ref (He.ga K "_law_draw"))) (B : BaOk (gb P w K mg base) hd.ba) (hi : hd.ba.free "int" = true)
    (cm : (plainArgs (defArgs dm.st) && (decide ((pnm (defArgs dm.st)).length = 1) && (fnB mixN (pnm (defArgs dm.st)) (defScope dm.st) && chkMix hd.ba.free (defScope dm.st) p q r z (defBody dm.st)))) = true)
    (cd : (plainArgs (defArgs dd.st) && (decide ((pnm (defArgs dd.st)).length = 2) && (fnB drawN (pnm (defArgs dd.st)) (defScope dd.st) && chkDraw ⟨defScope dd.st, drawN, fun _ => true, false⟩ "_law_mixed" (defBody dd.st)))) = true)
    (hp : 2 ^ 30 < p ∧ p < 2 ^ 31) (hq : 2 ^ 30 < q ∧ q < 2 ^ 31) (hr' : 2 ^ 30 < r ∧ r < 2 ^ 31) (hz : 2 ^ 30 < z ∧ z < 2 ^ 31) : Ob (gb P w K mg base) 4 ⟨.gl "_law_draw", .fn, fsDraw, 1, []⟩ := by
  obtain ⟨m1, cm⟩ := ba cm
  obtain ⟨m2, cm⟩ := ba cm
  obtain ⟨m3, m4⟩ := ba cm
  obtain ⟨d1, cd⟩ := ba cd
  obtain ⟨d2, cd⟩ := ba cd
  obtain ⟨d3, d4⟩ := ba cd
  have Fm : FunD (gb P w K mg base).K dm.name dm.qual (defArgs dm.st) (defBody dm.st) (defScope dm.st) [] [] (dm.at_.ad K) fm := Fm
  have Fd : FunD (gb P w K mg base).K dd.name dd.qual (defArgs dd.st) (defBody dd.st) (defScope dd.st) [] [] (dd.at_.ad K) fdd := Fd
  rw [hm] at Fm
  rw [hd'] at Fd
  have fmix := mixed_okR Fm m1 m3 (of_decide_eq_true m2) m4 (ct_ok B (TOk.nil (k := 0))) hp hq hr' hz
  exact ⟨_, gd, Fd.kp, draw_okR Fd d1 d3 (of_decide_eq_true d2) d4 (B.free _ hi) gm Fm.kp fmix⟩
theorem ob_plain (F : FunDf K d fd) (hD : d.at_ = .gl "_law_plain") (hg : mg "_law_plain" = some (.ref (He.ga K "_law_plain"))) (B : BaOk (gb P w K mg base) hd.ba) (c : defB d plainN ["value"] irPlain hd.ba.free false = true) : Ob (gb P w K mg base) 16 ⟨.gl "_law_plain", .fn, fsPlain 7, 0, []⟩ := by
  obtain ⟨c1, c⟩ := ba c
  obtain ⟨c2, c⟩ := ba c
  obtain ⟨c3, c4⟩ := ba c
  have c2 := of_decide_eq_true c2
  have F : FunD (gb P w K mg base).K d.name d.qual (defArgs d.st) (defBody d.st) (defScope d.st) [] [] (d.at_.ad K) fd := F
  rw [hD] at F
  exact ⟨_, hg, F.kp, plain_tower F c1 (by rw [c2]; exact c3) c2 c4 hg B.free 7⟩
/-- the law -/
theorem ob_law {m : Nat} {db : Df} {fb : FuncData} (F : FunDf K d fd) (hD : d.at_ = .gl "law") (Fb : FunDf K db fb) (hb' : db.at_ = .gl "_law_begun") (gB : mg "_law_begun" = some (.ref (He.ga K "_law_begun"))) (B : BaOk (gb P w K mg base) hd.ba)
    (c : (plainArgs (defArgs d.st) && (decide ((pnm (defArgs d.st)).length = 1) && (fnB N (pnm (defArgs d.st)) (defScope d.st) && (decide (2 ≤ N.length) && chkLaw hd.ba.free ⟨defScope d.st, N, fun _ => true, true⟩ ir (defBody d.st))))) = true)
    (cb : (plainArgs (defArgs db.st) && (decide ((pnm (defArgs db.st)).length = 1) && (fnB begN (pnm (defArgs db.st)) (defScope db.st) && chkBegun hd.ba.free ⟨defScope db.st, begN, fun _ => true, false⟩ (defBody db.st)))) = true)
    (t : TOk (gb P w K mg base) n T) (hn : 2 ≤ n) (hm : m < sizeLine) (hb : costS (ctOf hd.ba T) ir ≤ LIM) (k : KeepsL (ctOf hd.ba T) ir N m) :
    FnG P w K mg base (L2.CX P w) (n + 2) (He.ga K "law") (spLaw (gb P w K mg base) m) := by
  obtain ⟨c1, c⟩ := ba c
  obtain ⟨c2, c⟩ := ba c
  obtain ⟨c3, c⟩ := ba c
  obtain ⟨c4, c5⟩ := ba c
  obtain ⟨b1, cb⟩ := ba cb
  obtain ⟨b2, cb⟩ := ba cb
  obtain ⟨b3, b4⟩ := ba cb
  have F : FunD (gb P w K mg base).K d.name d.qual (defArgs d.st) (defBody d.st) (defScope d.st) [] [] (d.at_.ad K) fd := F
  have Fb : FunD (gb P w K mg base).K db.name db.qual (defArgs db.st) (defBody db.st) (defScope db.st) [] [] (db.at_.ad K) fb := Fb
  rw [hD] at F
  rw [hb'] at Fb
  have fbeg := begun_okR Fb b1 b3 (of_decide_eq_true b2) b4 (ct_ok B (TOk.nil (k := 0)))
  exact law_okG F c1 c3 (of_decide_eq_true c2) (of_decide_eq_true c4) c5 (ct_ok B t) hm hb k gB Fb.kp (fbeg.mono hn)
end
end Dl

set_option Elab.async false
set_option linter.all false
set_option maxRecDepth 100000
set_option maxHeartbeats 4000000
/-! Dl: the meanings at constructors. -/
namespace Dl
open PySem PySem.Spec PyProof.Rows L2
theorem see_val {xs ys : List D} {d : D} {i j : Int} {s u : Str} {b c o o2 : Bool} {fs : List (Str × D)} {k : List Sl → Prop} {δ : List Sl} {P : R → Prop}  : R.see (.val d) = some d := rfl
theorem see_fresh {xs ys : List D} {d : D} {i j : Int} {s u : Str} {b c o o2 : Bool} {fs : List (Str × D)} {k : List Sl → Prop} {δ : List Sl} {P : R → Prop}  : R.see (.fresh xs) = some (.lst xs) := rfl
theorem see_brw {xs ys : List D} {d : D} {i j : Int} {s u : Str} {b c o o2 : Bool} {fs : List (Str × D)} {k : List Sl → Prop} {δ : List Sl} {P : R → Prop}  : R.see (.brw o xs) = some (.lst xs) := rfl
theorem dat_val {xs ys : List D} {d : D} {i j : Int} {s u : Str} {b c o o2 : Bool} {fs : List (Str × D)} {k : List Sl → Prop} {δ : List Sl} {P : R → Prop}  : R.dat (.val d) = some d := rfl
theorem dat_fresh {xs ys : List D} {d : D} {i j : Int} {s u : Str} {b c o o2 : Bool} {fs : List (Str × D)} {k : List Sl → Prop} {δ : List Sl} {P : R → Prop}  : R.dat (.fresh xs) = some (.lst xs) := rfl
theorem out_val {xs ys : List D} {d : D} {i j : Int} {s u : Str} {b c o o2 : Bool} {fs : List (Str × D)} {k : List Sl → Prop} {δ : List Sl} {P : R → Prop}  : R.out (.val d) = true := rfl
theorem out_fresh {xs ys : List D} {d : D} {i j : Int} {s u : Str} {b c o o2 : Bool} {fs : List (Str × D)} {k : List Sl → Prop} {δ : List Sl} {P : R → Prop}  : R.out (.fresh xs) = true := rfl
theorem out_stt {xs ys : List D} {d : D} {i j : Int} {s u : Str} {b c o o2 : Bool} {fs : List (Str × D)} {k : List Sl → Prop} {δ : List Sl} {P : R → Prop}  : R.out .stt = true := rfl
theorem tru_non {xs ys : List D} {d : D} {i j : Int} {s u : Str} {b c o o2 : Bool} {fs : List (Str × D)} {k : List Sl → Prop} {δ : List Sl} {P : R → Prop}  : R.tru (.val .non) = some false := rfl
theorem tru_bl {xs ys : List D} {d : D} {i j : Int} {s u : Str} {b c o o2 : Bool} {fs : List (Str × D)} {k : List Sl → Prop} {δ : List Sl} {P : R → Prop}  : R.tru (.val (.bl b)) = some b := rfl
theorem tru_int {xs ys : List D} {d : D} {i j : Int} {s u : Str} {b c o o2 : Bool} {fs : List (Str × D)} {k : List Sl → Prop} {δ : List Sl} {P : R → Prop}  : R.tru (.val (.int i)) = some (i != 0) := rfl
theorem tru_lst {xs ys : List D} {d : D} {i j : Int} {s u : Str} {b c o o2 : Bool} {fs : List (Str × D)} {k : List Sl → Prop} {δ : List Sl} {P : R → Prop}  : R.tru (.val (.lst xs)) = some (!xs.isEmpty) := rfl
theorem tru_tup {xs ys : List D} {d : D} {i j : Int} {s u : Str} {b c o o2 : Bool} {fs : List (Str × D)} {k : List Sl → Prop} {δ : List Sl} {P : R → Prop}  : R.tru (.val (.tup xs)) = some (!xs.isEmpty) := rfl
theorem tru_fresh {xs ys : List D} {d : D} {i j : Int} {s u : Str} {b c o o2 : Bool} {fs : List (Str × D)} {k : List Sl → Prop} {δ : List Sl} {P : R → Prop}  : R.tru (.fresh xs) = some (!xs.isEmpty) := rfl
theorem tru_brw {xs ys : List D} {d : D} {i j : Int} {s u : Str} {b c o o2 : Bool} {fs : List (Str × D)} {k : List Sl → Prop} {δ : List Sl} {P : R → Prop}  : R.tru (.brw o xs) = some (!xs.isEmpty) := rfl
theorem as_vv {xs ys : List D} {d : D} {i j : Int} {s u : Str} {b c o o2 : Bool} {fs : List (Str × D)} {k : List Sl → Prop} {δ : List Sl} {P : R → Prop}  : R.as .v (.val d) = some (.val d) := rfl
theorem as_vf {xs ys : List D} {d : D} {i j : Int} {s u : Str} {b c o o2 : Bool} {fs : List (Str × D)} {k : List Sl → Prop} {δ : List Sl} {P : R → Prop}  : R.as .v (.fresh xs) = some (.val (.lst xs)) := rfl
theorem as_s {xs ys : List D} {d : D} {i j : Int} {s u : Str} {b c o o2 : Bool} {fs : List (Str × D)} {k : List Sl → Prop} {δ : List Sl} {P : R → Prop}  : R.as .s .stt = some .stt := rfl
theorem as_av {xs ys : List D} {d : D} {i j : Int} {s u : Str} {b c o o2 : Bool} {fs : List (Str × D)} {k : List Sl → Prop} {δ : List Sl} {P : R → Prop}  : R.as .a (.val d) = some (.val d) := rfl
theorem as_af {xs ys : List D} {d : D} {i j : Int} {s u : Str} {b c o o2 : Bool} {fs : List (Str × D)} {k : List Sl → Prop} {δ : List Sl} {P : R → Prop}  : R.as .a (.fresh xs) = some (.val (.lst xs)) := rfl
theorem as_ab {xs ys : List D} {d : D} {i j : Int} {s u : Str} {b c o o2 : Bool} {fs : List (Str × D)} {k : List Sl → Prop} {δ : List Sl} {P : R → Prop}  : R.as .a (.brw o xs) = some (.brw false xs) := rfl
theorem as_bf {xs ys : List D} {d : D} {i j : Int} {s u : Str} {b c o o2 : Bool} {fs : List (Str × D)} {k : List Sl → Prop} {δ : List Sl} {P : R → Prop}  : R.as .b (.fresh xs) = some (.brw false xs) := rfl
theorem as_bb {xs ys : List D} {d : D} {i j : Int} {s u : Str} {b c o o2 : Bool} {fs : List (Str × D)} {k : List Sl → Prop} {δ : List Sl} {P : R → Prop}  : R.as .b (.brw o xs) = some (.brw false xs) := rfl
theorem as_bl {xs ys : List D} {d : D} {i j : Int} {s u : Str} {b c o o2 : Bool} {fs : List (Str × D)} {k : List Sl → Prop} {δ : List Sl} {P : R → Prop}  : R.as .b (.val (.lst xs)) = some (.brw false xs) := rfl
theorem lv_lst {xs ys : List D} {d : D} {i j : Int} {s u : Str} {b c o o2 : Bool} {fs : List (Str × D)} {k : List Sl → Prop} {δ : List Sl} {P : R → Prop}  : R.lv (.val (.lst xs)) = some xs := rfl
theorem lv_fresh {xs ys : List D} {d : D} {i j : Int} {s u : Str} {b c o o2 : Bool} {fs : List (Str × D)} {k : List Sl → Prop} {δ : List Sl} {P : R → Prop}  : R.lv (.fresh xs) = some xs := rfl
theorem lv_brw {xs ys : List D} {d : D} {i j : Int} {s u : Str} {b c o o2 : Bool} {fs : List (Str × D)} {k : List Sl → Prop} {δ : List Sl} {P : R → Prop}  : R.lv (.brw o xs) = some xs := rfl
theorem int_int {xs ys : List D} {d : D} {i j : Int} {s u : Str} {b c o o2 : Bool} {fs : List (Str × D)} {k : List Sl → Prop} {δ : List Sl} {P : R → Prop}  : R.int? (.val (.int i)) = some i := rfl
theorem len_lst {xs ys : List D} {d : D} {i j : Int} {s u : Str} {b c o o2 : Bool} {fs : List (Str × D)} {k : List Sl → Prop} {δ : List Sl} {P : R → Prop}  : R.len (.val (.lst xs)) = some xs.length := rfl
theorem len_tup {xs ys : List D} {d : D} {i j : Int} {s u : Str} {b c o o2 : Bool} {fs : List (Str × D)} {k : List Sl → Prop} {δ : List Sl} {P : R → Prop}  : R.len (.val (.tup xs)) = some xs.length := rfl
theorem len_frl {xs ys : List D} {d : D} {i j : Int} {s u : Str} {b c o o2 : Bool} {fs : List (Str × D)} {k : List Sl → Prop} {δ : List Sl} {P : R → Prop}  : R.len (.val (.frl xs)) = some xs.length := rfl
theorem len_fresh {xs ys : List D} {d : D} {i j : Int} {s u : Str} {b c o o2 : Bool} {fs : List (Str × D)} {k : List Sl → Prop} {δ : List Sl} {P : R → Prop}  : R.len (.fresh xs) = some xs.length := rfl
theorem len_brw {xs ys : List D} {d : D} {i j : Int} {s u : Str} {b c o o2 : Bool} {fs : List (Str × D)} {k : List Sl → Prop} {δ : List Sl} {P : R → Prop}  : R.len (.brw o xs) = some xs.length := rfl
theorem rd_val {xs ys : List D} {d : D} {i j : Int} {s u : Str} {b c o o2 : Bool} {fs : List (Str × D)} {k : List Sl → Prop} {δ : List Sl} {P : R → Prop}  : readSl (some (.val d)) = some (.val d) := rfl
theorem rd_own {xs ys : List D} {d : D} {i j : Int} {s u : Str} {b c o o2 : Bool} {fs : List (Str × D)} {k : List Sl → Prop} {δ : List Sl} {P : R → Prop}  : readSl (some (.own xs)) = some (.brw true xs) := rfl
theorem rd_bor {xs ys : List D} {d : D} {i j : Int} {s u : Str} {b c o o2 : Bool} {fs : List (Str × D)} {k : List Sl → Prop} {δ : List Sl} {P : R → Prop}  : readSl (some (.bor xs)) = some (.brw false xs) := rfl
theorem rd_stt {xs ys : List D} {d : D} {i j : Int} {s u : Str} {b c o o2 : Bool} {fs : List (Str × D)} {k : List Sl → Prop} {δ : List Sl} {P : R → Prop}  : readSl (some .stt) = some .stt := rfl
theorem it_lst {xs ys : List D} {d : D} {i j : Int} {s u : Str} {b c o o2 : Bool} {fs : List (Str × D)} {k : List Sl → Prop} {δ : List Sl} {P : R → Prop}  : itOf (.val (.lst xs)) = some (false, xs) := rfl
theorem it_tup {xs ys : List D} {d : D} {i j : Int} {s u : Str} {b c o o2 : Bool} {fs : List (Str × D)} {k : List Sl → Prop} {δ : List Sl} {P : R → Prop}  : itOf (.val (.tup xs)) = some (false, xs) := rfl
theorem it_frl {xs ys : List D} {d : D} {i j : Int} {s u : Str} {b c o o2 : Bool} {fs : List (Str × D)} {k : List Sl → Prop} {δ : List Sl} {P : R → Prop}  : itOf (.val (.frl xs)) = some (false, xs) := rfl
theorem it_fresh {xs ys : List D} {d : D} {i j : Int} {s u : Str} {b c o o2 : Bool} {fs : List (Str × D)} {k : List Sl → Prop} {δ : List Sl} {P : R → Prop}  : itOf (.fresh xs) = some (false, xs) := rfl
theorem it_brw {xs ys : List D} {d : D} {i j : Int} {s u : Str} {b c o o2 : Bool} {fs : List (Str × D)} {k : List Sl → Prop} {δ : List Sl} {P : R → Prop}  : itOf (.brw o xs) = some (o, xs) := rfl
theorem bin_add {xs ys : List D} {d : D} {i j : Int} {s u : Str} {b c o o2 : Bool} {fs : List (Str × D)} {k : List Sl → Prop} {δ : List Sl} {P : R → Prop}  : wBin .add (.val (.int i)) (.val (.int j)) P = P (.val (.int (i + j))) := rfl
theorem bin_sub {xs ys : List D} {d : D} {i j : Int} {s u : Str} {b c o o2 : Bool} {fs : List (Str × D)} {k : List Sl → Prop} {δ : List Sl} {P : R → Prop}  : wBin .sub (.val (.int i)) (.val (.int j)) P = P (.val (.int (i - j))) := rfl
theorem bin_mul {xs ys : List D} {d : D} {i j : Int} {s u : Str} {b c o o2 : Bool} {fs : List (Str × D)} {k : List Sl → Prop} {δ : List Sl} {P : R → Prop}  : wBin .mul (.val (.int i)) (.val (.int j)) P = (CMul i j ∧ P (.val (.int (i * j)))) := rfl
theorem bin_fdiv {xs ys : List D} {d : D} {i j : Int} {s u : Str} {b c o o2 : Bool} {fs : List (Str × D)} {k : List Sl → Prop} {δ : List Sl} {P : R → Prop}  : wBin .fdiv (.val (.int i)) (.val (.int j)) P = (CDivN i j ∧ P (.val (.int (i.fdiv j)))) := rfl
theorem bin_mod {xs ys : List D} {d : D} {i j : Int} {s u : Str} {b c o o2 : Bool} {fs : List (Str × D)} {k : List Sl → Prop} {δ : List Sl} {P : R → Prop}  : wBin .mod (.val (.int i)) (.val (.int j)) P = (j ≠ 0 ∧ P (.val (.int (i.fmod j)))) := rfl
theorem bin_pow {xs ys : List D} {d : D} {i j : Int} {s u : Str} {b c o o2 : Bool} {fs : List (Str × D)} {k : List Sl → Prop} {δ : List Sl} {P : R → Prop}  : wBin .pow (.val (.int i)) (.val (.int j)) P = (CPow i j ∧ P (.val (.int (i ^ j.toNat)))) := rfl
theorem bin_str {xs ys : List D} {d : D} {i j : Int} {s u : Str} {b c o o2 : Bool} {fs : List (Str × D)} {k : List Sl → Prop} {δ : List Sl} {P : R → Prop}  : wBin .add (.val (.str s)) (.val (.str u)) P = (s.length + u.length ≤ sizeLine ∧ P (.val (.str (s ++ u)))) := rfl
theorem cat_vv {xs ys : List D} {d : D} {i j : Int} {s u : Str} {b c o o2 : Bool} {fs : List (Str × D)} {k : List Sl → Prop} {δ : List Sl} {P : R → Prop}  : wBin .add (.val (.lst xs)) (.val (.lst ys)) P = (xs.length + ys.length ≤ sizeLine ∧ P (.fresh (xs ++ ys))) := rfl
theorem cat_vf {xs ys : List D} {d : D} {i j : Int} {s u : Str} {b c o o2 : Bool} {fs : List (Str × D)} {k : List Sl → Prop} {δ : List Sl} {P : R → Prop}  : wBin .add (.val (.lst xs)) (.fresh ys) P = (xs.length + ys.length ≤ sizeLine ∧ P (.fresh (xs ++ ys))) := rfl
theorem cat_vb {xs ys : List D} {d : D} {i j : Int} {s u : Str} {b c o o2 : Bool} {fs : List (Str × D)} {k : List Sl → Prop} {δ : List Sl} {P : R → Prop}  : wBin .add (.val (.lst xs)) (.brw o2 ys) P = (xs.length + ys.length ≤ sizeLine ∧ P (.fresh (xs ++ ys))) := rfl
theorem rep_v {xs ys : List D} {d : D} {i j : Int} {s u : Str} {b c o o2 : Bool} {fs : List (Str × D)} {k : List Sl → Prop} {δ : List Sl} {P : R → Prop}  : wBin .mul (.val (.lst xs)) (.val (.int j)) P = (-(2 ^ 63) ≤ j ∧ j < 2 ^ 63 ∧ xs.length * j.toNat ≤ sizeLine ∧ P (.fresh (List.replicate j.toNat xs).flatten)) := rfl
theorem cat_fv {xs ys : List D} {d : D} {i j : Int} {s u : Str} {b c o o2 : Bool} {fs : List (Str × D)} {k : List Sl → Prop} {δ : List Sl} {P : R → Prop}  : wBin .add (.fresh xs) (.val (.lst ys)) P = (xs.length + ys.length ≤ sizeLine ∧ P (.fresh (xs ++ ys))) := rfl
theorem cat_ff {xs ys : List D} {d : D} {i j : Int} {s u : Str} {b c o o2 : Bool} {fs : List (Str × D)} {k : List Sl → Prop} {δ : List Sl} {P : R → Prop}  : wBin .add (.fresh xs) (.fresh ys) P = (xs.length + ys.length ≤ sizeLine ∧ P (.fresh (xs ++ ys))) := rfl
theorem cat_fb {xs ys : List D} {d : D} {i j : Int} {s u : Str} {b c o o2 : Bool} {fs : List (Str × D)} {k : List Sl → Prop} {δ : List Sl} {P : R → Prop}  : wBin .add (.fresh xs) (.brw o2 ys) P = (xs.length + ys.length ≤ sizeLine ∧ P (.fresh (xs ++ ys))) := rfl
theorem rep_f {xs ys : List D} {d : D} {i j : Int} {s u : Str} {b c o o2 : Bool} {fs : List (Str × D)} {k : List Sl → Prop} {δ : List Sl} {P : R → Prop}  : wBin .mul (.fresh xs) (.val (.int j)) P = (-(2 ^ 63) ≤ j ∧ j < 2 ^ 63 ∧ xs.length * j.toNat ≤ sizeLine ∧ P (.fresh (List.replicate j.toNat xs).flatten)) := rfl
theorem cat_bv {xs ys : List D} {d : D} {i j : Int} {s u : Str} {b c o o2 : Bool} {fs : List (Str × D)} {k : List Sl → Prop} {δ : List Sl} {P : R → Prop}  : wBin .add (.brw o xs) (.val (.lst ys)) P = (xs.length + ys.length ≤ sizeLine ∧ P (.fresh (xs ++ ys))) := rfl
theorem cat_bf {xs ys : List D} {d : D} {i j : Int} {s u : Str} {b c o o2 : Bool} {fs : List (Str × D)} {k : List Sl → Prop} {δ : List Sl} {P : R → Prop}  : wBin .add (.brw o xs) (.fresh ys) P = (xs.length + ys.length ≤ sizeLine ∧ P (.fresh (xs ++ ys))) := rfl
theorem cat_bb {xs ys : List D} {d : D} {i j : Int} {s u : Str} {b c o o2 : Bool} {fs : List (Str × D)} {k : List Sl → Prop} {δ : List Sl} {P : R → Prop}  : wBin .add (.brw o xs) (.brw o2 ys) P = (xs.length + ys.length ≤ sizeLine ∧ P (.fresh (xs ++ ys))) := rfl
theorem rep_b {xs ys : List D} {d : D} {i j : Int} {s u : Str} {b c o o2 : Bool} {fs : List (Str × D)} {k : List Sl → Prop} {δ : List Sl} {P : R → Prop}  : wBin .mul (.brw o xs) (.val (.int j)) P = (-(2 ^ 63) ≤ j ∧ j < 2 ^ 63 ∧ xs.length * j.toNat ≤ sizeLine ∧ P (.fresh (List.replicate j.toNat xs).flatten)) := rfl
theorem cmp_eq_vv {x y : D} {P : R → Prop} : wCmp .eq (.val x) (.val y) P = wEq false x y P := rfl
theorem cmp_eq_fv {xs : List D} {o : Bool} {y : D} {P : R → Prop} : wCmp .eq (.fresh xs) (.val y) P = wEq false (.lst xs) y P := rfl
theorem cmp_eq_vf {ys : List D} {o2 : Bool} {x : D} {P : R → Prop} : wCmp .eq (.val x) (.fresh ys) P = wEq false x (.lst ys) P := rfl
theorem cmp_eq_ff {xs ys : List D} {d : D} {i j : Int} {s u : Str} {b c o o2 : Bool} {fs : List (Str × D)} {k : List Sl → Prop} {δ : List Sl} {P : R → Prop}  : wCmp .eq (.fresh xs) (.fresh ys) P = wEq false (.lst xs) (.lst ys) P := rfl
theorem cmp_eq_fb {xs ys : List D} {d : D} {i j : Int} {s u : Str} {b c o o2 : Bool} {fs : List (Str × D)} {k : List Sl → Prop} {δ : List Sl} {P : R → Prop}  : wCmp .eq (.fresh xs) (.brw o2 ys) P = wEq false (.lst xs) (.lst ys) P := rfl
theorem cmp_eq_bv {xs : List D} {o : Bool} {y : D} {P : R → Prop} : wCmp .eq (.brw o xs) (.val y) P = wEq false (.lst xs) y P := rfl
theorem cmp_eq_vb {ys : List D} {o2 : Bool} {x : D} {P : R → Prop} : wCmp .eq (.val x) (.brw o2 ys) P = wEq false x (.lst ys) P := rfl
theorem cmp_eq_bf {xs ys : List D} {d : D} {i j : Int} {s u : Str} {b c o o2 : Bool} {fs : List (Str × D)} {k : List Sl → Prop} {δ : List Sl} {P : R → Prop}  : wCmp .eq (.brw o xs) (.fresh ys) P = wEq false (.lst xs) (.lst ys) P := rfl
theorem cmp_eq_bb {xs ys : List D} {d : D} {i j : Int} {s u : Str} {b c o o2 : Bool} {fs : List (Str × D)} {k : List Sl → Prop} {δ : List Sl} {P : R → Prop}  : wCmp .eq (.brw o xs) (.brw o2 ys) P = wEq false (.lst xs) (.lst ys) P := rfl
theorem cmp_ne_vv {x y : D} {P : R → Prop} : wCmp .ne (.val x) (.val y) P = wEq true x y P := rfl
theorem cmp_ne_fv {xs : List D} {o : Bool} {y : D} {P : R → Prop} : wCmp .ne (.fresh xs) (.val y) P = wEq true (.lst xs) y P := rfl
theorem cmp_ne_vf {ys : List D} {o2 : Bool} {x : D} {P : R → Prop} : wCmp .ne (.val x) (.fresh ys) P = wEq true x (.lst ys) P := rfl
theorem cmp_ne_ff {xs ys : List D} {d : D} {i j : Int} {s u : Str} {b c o o2 : Bool} {fs : List (Str × D)} {k : List Sl → Prop} {δ : List Sl} {P : R → Prop}  : wCmp .ne (.fresh xs) (.fresh ys) P = wEq true (.lst xs) (.lst ys) P := rfl
theorem cmp_ne_fb {xs ys : List D} {d : D} {i j : Int} {s u : Str} {b c o o2 : Bool} {fs : List (Str × D)} {k : List Sl → Prop} {δ : List Sl} {P : R → Prop}  : wCmp .ne (.fresh xs) (.brw o2 ys) P = wEq true (.lst xs) (.lst ys) P := rfl
theorem cmp_ne_bv {xs : List D} {o : Bool} {y : D} {P : R → Prop} : wCmp .ne (.brw o xs) (.val y) P = wEq true (.lst xs) y P := rfl
theorem cmp_ne_vb {ys : List D} {o2 : Bool} {x : D} {P : R → Prop} : wCmp .ne (.val x) (.brw o2 ys) P = wEq true x (.lst ys) P := rfl
theorem cmp_ne_bf {xs ys : List D} {d : D} {i j : Int} {s u : Str} {b c o o2 : Bool} {fs : List (Str × D)} {k : List Sl → Prop} {δ : List Sl} {P : R → Prop}  : wCmp .ne (.brw o xs) (.fresh ys) P = wEq true (.lst xs) (.lst ys) P := rfl
theorem cmp_ne_bb {xs ys : List D} {d : D} {i j : Int} {s u : Str} {b c o o2 : Bool} {fs : List (Str × D)} {k : List Sl → Prop} {δ : List Sl} {P : R → Prop}  : wCmp .ne (.brw o xs) (.brw o2 ys) P = wEq true (.lst xs) (.lst ys) P := rfl
theorem cmp_lt {xs ys : List D} {d : D} {i j : Int} {s u : Str} {b c o o2 : Bool} {fs : List (Str × D)} {k : List Sl → Prop} {δ : List Sl} {P : R → Prop}  : wCmp .lt (.val (.int i)) (.val (.int j)) P = P (.val (.bl (decide (i < j)))) := rfl
theorem cmp_le {xs ys : List D} {d : D} {i j : Int} {s u : Str} {b c o o2 : Bool} {fs : List (Str × D)} {k : List Sl → Prop} {δ : List Sl} {P : R → Prop}  : wCmp .le (.val (.int i)) (.val (.int j)) P = P (.val (.bl (decide (i ≤ j)))) := rfl
theorem cmp_gt {xs ys : List D} {d : D} {i j : Int} {s u : Str} {b c o o2 : Bool} {fs : List (Str × D)} {k : List Sl → Prop} {δ : List Sl} {P : R → Prop}  : wCmp .gt (.val (.int i)) (.val (.int j)) P = P (.val (.bl (decide (j < i)))) := rfl
theorem cmp_ge {xs ys : List D} {d : D} {i j : Int} {s u : Str} {b c o o2 : Bool} {fs : List (Str × D)} {k : List Sl → Prop} {δ : List Sl} {P : R → Prop}  : wCmp .ge (.val (.int i)) (.val (.int j)) P = P (.val (.bl (decide (j ≤ i)))) := rfl
theorem cmp_is_non {xs ys : List D} {d : D} {i j : Int} {s u : Str} {b c o o2 : Bool} {fs : List (Str × D)} {k : List Sl → Prop} {δ : List Sl} {P : R → Prop}  : wCmp .is_ (.val d) (.val .non) P = P (.val (.bl d.isNon)) := rfl
theorem cmp_isn_non {xs ys : List D} {d : D} {i j : Int} {s u : Str} {b c o o2 : Bool} {fs : List (Str × D)} {k : List Sl → Prop} {δ : List Sl} {P : R → Prop}  : wCmp .isn (.val d) (.val .non) P = P (.val (.bl (!d.isNon))) := rfl
theorem cmp_is_bl {xs ys : List D} {d : D} {i j : Int} {s u : Str} {b c o o2 : Bool} {fs : List (Str × D)} {k : List Sl → Prop} {δ : List Sl} {P : R → Prop}  : wCmp .is_ (.val (.bl b)) (.val (.bl c)) P = P (.val (.bl (b == c))) := rfl
theorem cmp_isn_bl {xs ys : List D} {d : D} {i j : Int} {s u : Str} {b c o o2 : Bool} {fs : List (Str × D)} {k : List Sl → Prop} {δ : List Sl} {P : R → Prop}  : wCmp .isn (.val (.bl b)) (.val (.bl c)) P = P (.val (.bl (!(b == c)))) := rfl
theorem isNon_non {xs ys : List D} {d : D} {i j : Int} {s u : Str} {b c o o2 : Bool} {fs : List (Str × D)} {k : List Sl → Prop} {δ : List Sl} {P : R → Prop}  : D.isNon D.non = true := rfl
theorem isNon_int {xs ys : List D} {d : D} {i j : Int} {s u : Str} {b c o o2 : Bool} {fs : List (Str × D)} {k : List Sl → Prop} {δ : List Sl} {P : R → Prop}  : D.isNon (D.int i) = false := rfl
theorem isNon_str {xs ys : List D} {d : D} {i j : Int} {s u : Str} {b c o o2 : Bool} {fs : List (Str × D)} {k : List Sl → Prop} {δ : List Sl} {P : R → Prop}  : D.isNon (D.str s) = false := rfl
theorem isNon_lst {xs ys : List D} {d : D} {i j : Int} {s u : Str} {b c o o2 : Bool} {fs : List (Str × D)} {k : List Sl → Prop} {δ : List Sl} {P : R → Prop}  : D.isNon (D.lst xs) = false := rfl
theorem isNon_tup {xs ys : List D} {d : D} {i j : Int} {s u : Str} {b c o o2 : Bool} {fs : List (Str × D)} {k : List Sl → Prop} {δ : List Sl} {P : R → Prop}  : D.isNon (D.tup xs) = false := rfl
theorem isNon_frl {xs ys : List D} {d : D} {i j : Int} {s u : Str} {b c o o2 : Bool} {fs : List (Str × D)} {k : List Sl → Prop} {δ : List Sl} {P : R → Prop}  : D.isNon (D.frl xs) = false := rfl
theorem isNon_obj {xs ys : List D} {d : D} {i j : Int} {s u : Str} {b c o o2 : Bool} {fs : List (Str × D)} {k : List Sl → Prop} {δ : List Sl} {P : R → Prop}  : D.isNon (D.obj s fs) = false := rfl
theorem isNon_bl {xs ys : List D} {d : D} {i j : Int} {s u : Str} {b c o o2 : Bool} {fs : List (Str × D)} {k : List Sl → Prop} {δ : List Sl} {P : R → Prop}  : D.isNon (D.bl b) = false := rfl
theorem ix_tup {xs ys : List D} {d : D} {i j : Int} {s u : Str} {b c o o2 : Bool} {fs : List (Str × D)} {k : List Sl → Prop} {δ : List Sl} {P : R → Prop}  : wIdx (.val (.tup xs)) (.val (.int i)) P = (match atI xs i with | some d => P (.val d) | none => False) := rfl
theorem ix_v {xs ys : List D} {d : D} {i j : Int} {s u : Str} {b c o o2 : Bool} {fs : List (Str × D)} {k : List Sl → Prop} {δ : List Sl} {P : R → Prop}  : wIdx (.val (.lst xs)) (.val (.int i)) P = (match atI xs i with | some d => P (.val d) | none => False) := rfl
theorem ix_f {xs ys : List D} {d : D} {i j : Int} {s u : Str} {b c o o2 : Bool} {fs : List (Str × D)} {k : List Sl → Prop} {δ : List Sl} {P : R → Prop}  : wIdx (.fresh xs) (.val (.int i)) P = (match atI xs i with | some d => P (.val d) | none => False) := rfl
theorem ix_b {xs ys : List D} {d : D} {i j : Int} {s u : Str} {b c o o2 : Bool} {fs : List (Str × D)} {k : List Sl → Prop} {δ : List Sl} {P : R → Prop}  : wIdx (.brw o xs) (.val (.int i)) P = (match atI xs i with | some d => P (.val d) | none => False) := rfl
theorem tg_nm {xs ys : List D} {d : D} {i j : Int} {s u : Str} {b c o o2 : Bool} {fs : List (Str × D)} {k : List Sl → Prop} {δ : List Sl} {P : R → Prop} {n : Nat} : wTg (.nm n) d δ k = k (δ.set n (.val d)) := rfl
theorem tg_t2 {xs ys : List D} {d : D} {i j : Int} {s u : Str} {b c o o2 : Bool} {fs : List (Str × D)} {k : List Sl → Prop} {δ : List Sl} {P : R → Prop} {a e : Tg} {x y : D} : wTg (.t2 a e) (.tup [x, y]) δ k = (wTg a x δ fun δ => wTg e y δ k) := rfl
theorem tg_t3 {xs ys : List D} {d : D} {i j : Int} {s u : Str} {b c o o2 : Bool} {fs : List (Str × D)} {k : List Sl → Prop} {δ : List Sl} {P : R → Prop} {a e f : Tg} {x y z : D} : wTg (.t3 a e f) (.tup [x, y, z]) δ k = (wTg a x δ fun δ => wTg e y δ fun δ => wTg f z δ k) := rfl
theorem asg_nm {xs ys : List D} {d : D} {i j : Int} {s u : Str} {b c o o2 : Bool} {fs : List (Str × D)} {k : List Sl → Prop} {δ : List Sl} {P : R → Prop} {n : Nat} {r : R} : wAsg (.nm n) r δ k = wNm n r δ k := rfl
theorem asg_t2 {xs ys : List D} {d : D} {i j : Int} {s u : Str} {b c o o2 : Bool} {fs : List (Str × D)} {k : List Sl → Prop} {δ : List Sl} {P : R → Prop} {a e : Tg} : wAsg (.t2 a e) (.val d) δ k = wTg (.t2 a e) d δ k := rfl
theorem asg_t3 {xs ys : List D} {d : D} {i j : Int} {s u : Str} {b c o o2 : Bool} {fs : List (Str × D)} {k : List Sl → Prop} {δ : List Sl} {P : R → Prop} {a e f : Tg} : wAsg (.t3 a e f) (.val d) δ k = wTg (.t3 a e f) d δ k := rfl
theorem nm_val {xs ys : List D} {d : D} {i j : Int} {s u : Str} {b c o o2 : Bool} {fs : List (Str × D)} {k : List Sl → Prop} {δ : List Sl} {P : R → Prop} {n : Nat} : wNm n (.val d) δ k = k (δ.set n (.val d)) := rfl
theorem nm_fresh {xs ys : List D} {d : D} {i j : Int} {s u : Str} {b c o o2 : Bool} {fs : List (Str × D)} {k : List Sl → Prop} {δ : List Sl} {P : R → Prop} {n : Nat} : wNm n (.fresh xs) δ k = k (δ.set n (.own xs)) := rfl
theorem nm_stt {xs ys : List D} {d : D} {i j : Int} {s u : Str} {b c o o2 : Bool} {fs : List (Str × D)} {k : List Sl → Prop} {δ : List Sl} {P : R → Prop} {n : Nat} : wNm n .stt δ k = k (δ.set n .stt) := rfl
theorem sl_val {xs ys : List D} {d : D} {i j : Int} {s u : Str} {b c o o2 : Bool} {fs : List (Str × D)} {k : List Sl → Prop} {δ : List Sl} {P : R → Prop}  : R.sl (.val d) = .val d := rfl
theorem sl_brw {xs ys : List D} {d : D} {i j : Int} {s u : Str} {b c o o2 : Bool} {fs : List (Str × D)} {k : List Sl → Prop} {δ : List Sl} {P : R → Prop}  : R.sl (.brw o xs) = .bor xs := rfl
theorem sl_stt {xs ys : List D} {d : D} {i j : Int} {s u : Str} {b c o o2 : Bool} {fs : List (Str × D)} {k : List Sl → Prop} {δ : List Sl} {P : R → Prop}  : R.sl .stt = .stt := rfl
theorem ty_int {xs ys : List D} {d : D} {i j : Int} {s u : Str} {b c o o2 : Bool} {fs : List (Str × D)} {k : List Sl → Prop} {δ : List Sl} {P : R → Prop}  : wTy "int" [.val (.int i)] P = P (.val (.int i)) := rfl
theorem ty_tt {xs ys : List D} {d : D} {i j : Int} {s u : Str} {b c o o2 : Bool} {fs : List (Str × D)} {k : List Sl → Prop} {δ : List Sl} {P : R → Prop}  : wTy "tuple" [.val (.tup xs)] P = P (.val (.tup xs)) := rfl
theorem ty_tv {xs ys : List D} {d : D} {i j : Int} {s u : Str} {b c o o2 : Bool} {fs : List (Str × D)} {k : List Sl → Prop} {δ : List Sl} {P : R → Prop}  : wTy "tuple" [(.val (.lst xs))] P = P (.val (.tup xs)) := rfl
theorem ty_lv {xs ys : List D} {d : D} {i j : Int} {s u : Str} {b c o o2 : Bool} {fs : List (Str × D)} {k : List Sl → Prop} {δ : List Sl} {P : R → Prop}  : wTy "list" [(.val (.lst xs))] P = P (.fresh xs) := rfl
theorem ty_tf {xs ys : List D} {d : D} {i j : Int} {s u : Str} {b c o o2 : Bool} {fs : List (Str × D)} {k : List Sl → Prop} {δ : List Sl} {P : R → Prop}  : wTy "tuple" [(.fresh xs)] P = P (.val (.tup xs)) := rfl
theorem ty_lf {xs ys : List D} {d : D} {i j : Int} {s u : Str} {b c o o2 : Bool} {fs : List (Str × D)} {k : List Sl → Prop} {δ : List Sl} {P : R → Prop}  : wTy "list" [(.fresh xs)] P = P (.fresh xs) := rfl
theorem ty_tb {xs ys : List D} {d : D} {i j : Int} {s u : Str} {b c o o2 : Bool} {fs : List (Str × D)} {k : List Sl → Prop} {δ : List Sl} {P : R → Prop}  : wTy "tuple" [(.brw o xs)] P = P (.val (.tup xs)) := rfl
theorem ty_lb {xs ys : List D} {d : D} {i j : Int} {s u : Str} {b c o o2 : Bool} {fs : List (Str × D)} {k : List Sl → Prop} {δ : List Sl} {P : R → Prop}  : wTy "list" [(.brw o xs)] P = P (.fresh xs) := rfl
theorem ty_lt {xs ys : List D} {d : D} {i j : Int} {s u : Str} {b c o o2 : Bool} {fs : List (Str × D)} {k : List Sl → Prop} {δ : List Sl} {P : R → Prop}  : wTy "list" [.val (.tup xs)] P = P (.fresh xs) := rfl
theorem slc_tup {xs ys : List D} {d : D} {i j : Int} {s u : Str} {b c o o2 : Bool} {fs : List (Str × D)} {k : List Sl → Prop} {δ : List Sl} {P : R → Prop} {lo hi : Option Int} : wSlc (.val (.tup xs)) lo hi P = P (.val (.tup (cutD xs lo hi))) := rfl
theorem slc_v {xs ys : List D} {d : D} {i j : Int} {s u : Str} {b c o o2 : Bool} {fs : List (Str × D)} {k : List Sl → Prop} {δ : List Sl} {P : R → Prop} {lo hi : Option Int} : wSlc (.val (.lst xs)) lo hi P = P (.fresh (cutD xs lo hi)) := rfl
theorem slc_f {xs ys : List D} {d : D} {i j : Int} {s u : Str} {b c o o2 : Bool} {fs : List (Str × D)} {k : List Sl → Prop} {δ : List Sl} {P : R → Prop} {lo hi : Option Int} : wSlc (.fresh xs) lo hi P = P (.fresh (cutD xs lo hi)) := rfl
theorem slc_b {xs ys : List D} {d : D} {i j : Int} {s u : Str} {b c o o2 : Bool} {fs : List (Str × D)} {k : List Sl → Prop} {δ : List Sl} {P : R → Prop} {lo hi : Option Int} : wSlc (.brw o xs) lo hi P = P (.fresh (cutD xs lo hi)) := rfl
theorem slc_str {xs ys : List D} {d : D} {i j : Int} {s u : Str} {b c o o2 : Bool} {fs : List (Str × D)} {k : List Sl → Prop} {δ : List Sl} {P : R → Prop} {lo hi : Option Int} : wSlc (.val (.str s)) lo hi P = (s.length ≤ sizeLine ∧ P (.val (.str (cutS s lo hi)))) := rfl
end Dl

set_option Elab.async false
set_option linter.all false
set_option maxRecDepth 100000
set_option maxHeartbeats 4000000
/-! Dl: promises by a map of arguments; comprehensions; numbers. -/
namespace Dl
open PySem PySem.Spec PyProof.Rows L2
/-- a promise: of arguments of a shape, under a condition, some result -/
def fsD {α : Type} (ks : List Kd) (args : α → List R) (pre : α → Prop) (res : α → R → Prop) : FS where
  ks := ks
  sp as P _ := ∃ a, as = args a ∧ pre a ∧ ∀ r, res a r → P r
  mono := fun as P P' X X' f x ⟨a, h1, h2, h3⟩ => ⟨a, h1, h2, fun r h => f r (h3 r h)⟩
theorem wcall_of {α : Type} {ks : List Kd} {args : α → List R} {pre : α → Prop} {res : α → R → Prop} {as : List R} {P : R → Prop} {X : XD → Prop} (a : α) (h1 : asAll ks as = some (args a)) (h2 : pre a) (h3 : ∀ r, res a r → P r) : wCall (fsD ks args pre res) as P X := by
  unfold wCall
  show (match asAll ks as with | some l => _ | none => False)
  rw [h1]
  exact ⟨a, rfl, h2, h3⟩
theorem star_call {f : FS} {as : List R} {xs : List D} {P : R → Prop} {X : XD → Prop} (h1 : asAll [.v, .v, .v, .v] as = some (xs.map R.val)) (h2 : xs.length ≤ 4) (h3 : f.sp [.val (.tup xs)] P X) : wCall (fsStar f) as P X := by
  unfold wCall
  show (match asAll [.v, .v, .v, .v] as with | some l => _ | none => False)
  rw [h1]
  exact ⟨xs, rfl, h2, h3⟩
theorem keeps_of {α : Type} {C : Ct} {ir : St} {N ps : List Str} {ks : List Kd} {args : α → List R} {pre : α → Prop} {res : α → R → Prop} (h : ∀ a (P : R → Prop) X, pre a → (∀ r, res a r → P r) → (args a).length = ps.length ∧ wS C ir (startD N (args a)) { nx := fun _ => P (.val .non), rt := P } X) : Keeps C ir N ps (fsD ks args pre res) := by
  rintro as P X ⟨a, rfl, h1, h2⟩
  exact h a P X h1 h2
theorem walk_map {α : Type} {step : D → List D → (List D → Prop) → Prop} {g f : α → D} {P : List D → Prop} : ∀ {ys : List α} {acc : List D}, (∀ y ∈ ys, ∀ acc (k : List D → Prop), k (acc ++ [f y]) → step (g y) acc k) → P (acc ++ ys.map f) → walkD step (ys.map g) acc P
  | [], acc, _, h => by simpa [walkD] using h
  | y :: ys, acc, hs, h => hs y (by simp) acc _ (walk_map (fun z hz => hs z (by simp [hz])) (by simpa using h))
theorem walk_filter {α : Type} {step : D → List D → (List D → Prop) → Prop} {g f : α → D} {c : α → Bool} {P : List D → Prop} : ∀ {ys : List α} {acc : List D}, (∀ y ∈ ys, ∀ acc (k : List D → Prop), k (if c y then acc ++ [f y] else acc) → step (g y) acc k) → P (acc ++ (ys.filter c).map f) → walkD step (ys.map g) acc P
  | [], acc, _, h => by simpa [walkD] using h
  | y :: ys, acc, hs, h => hs y (by simp) acc _ (walk_filter (fun z hz => hs z (by simp [hz])) (by
      by_cases q : c y
      · simpa [q] using h
      · simpa [q] using h))
/-- .. of any results of a kind -/
theorem walk_all {step : D → List D → (List D → Prop) → Prop} {Q : D → Prop} {P : List D → Prop} : ∀ {xs acc : List D}, (∀ x ∈ xs, ∀ acc (k : List D → Prop), (∀ d, Q d → k (acc ++ [d])) → step x acc k) → (∀ ds : List D, ds.length = xs.length → (∀ d ∈ ds, Q d) → P (acc ++ ds)) → walkD step xs acc P
  | [], acc, _, h => by simpa [walkD] using h [] rfl (fun _ z => by cases z)
  | x :: xs, acc, hs, h => hs x (by simp) acc _ fun d hd => walk_all (fun z hz => hs z (by simp [hz])) fun ds h1 h2 => by
      have := h (d :: ds) (by simp [h1]) (fun e he => by rcases List.mem_cons.mp he with rfl | he; exact hd; exact h2 _ he)
      simpa using this
/-! ### lists of numbers -/
abbrev ti (xs : List Int) : D := .tup (xs.map D.int)
abbrev li (xs : List Int) : D := .lst (xs.map D.int)
abbrev p2 (p : Int × Int) : D := .tup [.int p.1, .int p.2]
/-- a list or a tuple -/
def sq (b : Bool) (xs : List D) : D := if b then .tup xs else .lst xs
/-- .. or a list lent -/
inductive SqK where | l | t | b
def sqR : SqK → List D → R
  | .l, xs => .val (.lst xs)
  | .t, xs => .val (.tup xs)
  | .b, xs => .brw false xs
theorem it_sqR {k : SqK} {xs : List D} : itOf (sqR k xs) = some (false, xs) := by cases k <;> rfl
theorem len_sqR {k : SqK} {xs : List D} : R.len (sqR k xs) = some (xs.length : Int) := by cases k <;> rfl
theorem rd_sqR {k : SqK} {xs : List D} : readSl (some (R.sl (sqR k xs))) = some (sqR k xs) := by cases k <;> rfl
theorem as_sqR {k : SqK} {xs : List D} : R.as .a (sqR k xs) = some (sqR k xs) := by cases k <;> rfl
theorem it_sq {b : Bool} {xs : List D} : itOf (.val (sq b xs)) = some (false, xs) := by cases b <;> rfl
theorem len_sq {b : Bool} {xs : List D} : R.len (.val (sq b xs)) = some (xs.length : Int) := by cases b <;> rfl
def mn : List Int → Int
  | [] => 0
  | [x] => x
  | x :: xs => min x (mn xs)
def mx : List Int → Int
  | [] => 0
  | [x] => x
  | x :: xs => max x (mx xs)
theorem mn_spec : ∀ {xs : List Int}, xs ≠ [] → mn xs ∈ xs ∧ ∀ y ∈ xs, mn xs ≤ y
  | [], h => absurd rfl h
  | [x], _ => by simp [mn]
  | x :: y :: ys, _ => by
    obtain ⟨h1, h2⟩ := mn_spec (xs := y :: ys) (by simp)
    have e : mn (x :: y :: ys) = min x (mn (y :: ys)) := rfl
    rw [e]
    refine ⟨?_, fun z hz => ?_⟩
    · rcases Int.le_total x (mn (y :: ys)) with q | q
      · rw [Int.min_eq_left q]; simp
      · rw [Int.min_eq_right q]; exact List.mem_cons_of_mem _ h1
    · rcases List.mem_cons.mp hz with rfl | hz
      · exact Int.min_le_left _ _
      · exact Int.le_trans (Int.min_le_right _ _) (h2 z hz)
theorem mx_spec : ∀ {xs : List Int}, xs ≠ [] → mx xs ∈ xs ∧ ∀ y ∈ xs, y ≤ mx xs
  | [], h => absurd rfl h
  | [x], _ => by simp [mx]
  | x :: y :: ys, _ => by
    obtain ⟨h1, h2⟩ := mx_spec (xs := y :: ys) (by simp)
    have e : mx (x :: y :: ys) = max x (mx (y :: ys)) := rfl
    rw [e]
    refine ⟨?_, fun z hz => ?_⟩
    · rcases Int.le_total x (mx (y :: ys)) with q | q
      · rw [Int.max_eq_right q]; exact List.mem_cons_of_mem _ h1
      · rw [Int.max_eq_left q]; simp
    · rcases List.mem_cons.mp hz with rfl | hz
      · exact Int.le_max_left _ _
      · exact Int.le_trans (h2 z hz) (Int.le_max_right _ _)
theorem mn_eq {xs : List Int} {m : Int} (h1 : m ∈ xs) (h2 : ∀ y ∈ xs, m ≤ y) : mn xs = m := by
  have hn : xs ≠ [] := by rintro rfl; cases h1
  obtain ⟨k1, k2⟩ := mn_spec hn
  exact Int.le_antisymm (k2 m h1) (h2 _ k1)
theorem mx_eq {xs : List Int} {m : Int} (h1 : m ∈ xs) (h2 : ∀ y ∈ xs, y ≤ m) : mx xs = m := by
  have hn : xs ≠ [] := by rintro rfl; cases h1
  obtain ⟨k1, k2⟩ := mx_spec hn
  exact Int.le_antisymm (h2 _ k1) (k2 m h1)
theorem isInts_map : ∀ (xs : List Int), D.isInts (xs.map D.int) = some xs
  | [] => rfl
  | x :: xs => by simp [D.isInts, isInts_map xs]
theorem isBls_map : ∀ (xs : List Bool), D.isBls (xs.map D.bl) = some xs
  | [] => rfl
  | x :: xs => by simp [D.isBls, isBls_map xs]
theorem wmin_of {r : R} {ns : List Int} {P : R → Prop} (h1 : r.sv = some (ns.map D.int)) (h2 : ns ≠ []) (h3 : P (.val (.int (mn ns)))) : wBi "min" [r] P := by
  have q : (match r.sv with | some xs => (match D.isInts xs with | some ns => 0 < ns.length ∧ ∀ m, m ∈ ns → (∀ y, y ∈ ns → m ≤ y) → P (.val (.int m)) | none => False) | none => False) := by
    rw [h1]
    show (match D.isInts (ns.map D.int) with | some ns => 0 < ns.length ∧ ∀ m, m ∈ ns → (∀ y, y ∈ ns → m ≤ y) → P (.val (.int m)) | none => False)
    rw [isInts_map]
    refine ⟨List.length_pos_iff.mpr h2, fun m a b => ?_⟩
    rw [← mn_eq a b]; exact h3
  unfold wBi
  simp only [String.reduceEq, if_false, if_true]
  exact q
theorem wmax_of {r : R} {ns : List Int} {P : R → Prop} (h1 : r.sv = some (ns.map D.int)) (h2 : ns ≠ []) (h3 : P (.val (.int (mx ns)))) : wBi "max" [r] P := by
  have q : (match r.sv with | some xs => (match D.isInts xs with | some ns => 0 < ns.length ∧ ∀ m, m ∈ ns → (∀ y, y ∈ ns → y ≤ m) → P (.val (.int m)) | none => False) | none => False) := by
    rw [h1]
    show (match D.isInts (ns.map D.int) with | some ns => 0 < ns.length ∧ ∀ m, m ∈ ns → (∀ y, y ∈ ns → y ≤ m) → P (.val (.int m)) | none => False)
    rw [isInts_map]
    refine ⟨List.length_pos_iff.mpr h2, fun m a b => ?_⟩
    rw [← mx_eq a b]; exact h3
  unfold wBi
  simp only [String.reduceEq, if_false, if_true]
  exact q
theorem wall_of {r : R} {ns : List Bool} {P : R → Prop} (h1 : r.lv = some (ns.map D.bl)) (h3 : P (.val (.bl (ns.all id)))) : wBi "all" [r] P := by
  unfold wBi
  simp [h1, isBls_map]
  simpa using h3
theorem wany_of {r : R} {ns : List Bool} {P : R → Prop} (h1 : r.lv = some (ns.map D.bl)) (h3 : P (.val (.bl (ns.any id)))) : wBi "any" [r] P := by
  unfold wBi
  simp [h1, isBls_map]
  simpa using h3
/-- the places, each with its number -/
def en (xs : List Int) : List (Int × Int) := (List.range xs.length).zipWith (fun (i : Nat) x => ((i : Int), x)) xs
theorem enumD_ints (xs : List Int) : enumD (xs.map D.int) = (en xs).map p2 := by
  unfold enumD en
  rw [List.zipWith_map_right, List.map_zipWith, List.length_map]
theorem en_length (xs : List Int) : (en xs).length = xs.length := by simp [en]
theorem en_get {xs : List Int} {i : Nat} (h : i < xs.length) : (en xs)[i]? = some ((i : Int), xs[i]) := by
  unfold en
  rw [List.getElem?_zipWith]
  simp [h]
theorem mem_en {xs : List Int} {p : Int × Int} : p ∈ en xs ↔ ∃ i : Nat, ∃ h : i < xs.length, p = ((i : Int), xs[i]) := by
  constructor
  · intro h
    obtain ⟨i, hi, e⟩ := List.mem_iff_getElem.mp h
    have hi' : i < xs.length := by simpa [en_length] using hi
    refine ⟨i, hi', ?_⟩
    have := en_get hi'
    rw [List.getElem?_eq_getElem hi] at this
    rw [← e]; exact Option.some.inj this
  · rintro ⟨i, h, rfl⟩
    exact List.mem_of_getElem? (en_get h)
/-- .. of any things -/
def enA {α : Type} (xs : List α) : List (Int × α) := (List.range xs.length).zipWith (fun (i : Nat) x => ((i : Int), x)) xs
theorem enumD_map {α : Type} {g : α → D} (xs : List α) : enumD (xs.map g) = (enA xs).map fun q => .tup [.int q.1, g q.2] := by
  unfold enumD enA
  rw [List.zipWith_map_right, List.map_zipWith, List.length_map]
theorem enA_length {α : Type} (xs : List α) : (enA xs).length = xs.length := by simp [enA]
theorem mem_enA {α : Type} {xs : List α} {q : Int × α} (h : q ∈ enA xs) : 0 ≤ q.1 ∧ q.1 < xs.length ∧ q.2 ∈ xs := by
  unfold enA at h
  obtain ⟨i, hi, e⟩ := List.mem_iff_getElem.mp h
  rw [List.length_zipWith, List.length_range, Nat.min_self] at hi
  rw [List.getElem_zipWith, List.getElem_range] at e
  subst e
  exact ⟨by simp, by simp; omega, List.getElem_mem _⟩
theorem zipD_ints (xs ys : List Int) : zipD (xs.map D.int) (ys.map D.int) = (xs.zip ys).map p2 := by
  unfold zipD
  rw [List.zipWith_map, List.zip, List.map_zipWith]
/-- the numbers from 0 on -/
def rg (n : Nat) : List Int := (List.range n).map fun (i : Nat) => (i : Int)
theorem rg_length (n : Nat) : (rg n).length = n := by simp [rg]
theorem mem_rg {n : Nat} {i : Int} : i ∈ rg n ↔ 0 ≤ i ∧ i < n := by
  unfold rg
  rw [List.mem_map]
  constructor
  · rintro ⟨j, hj, rfl⟩
    have := List.mem_range.mp hj
    omega
  · rintro ⟨h1, h2⟩
    exact ⟨i.toNat, List.mem_range.mpr (by omega), by omega⟩
theorem rng_1 {n : Int} {P : Bool → List D → Prop} : wRng [.val (.int n)] P = ((-(2 ^ 62) ≤ n ∧ n < 2 ^ 62) ∧ P false ((rg n.toNat).map D.int)) := by
  simp only [wRng, rg, List.map_map]
  rfl
/-- the numbers from a to b - 1 -/
def rgAB (a b : Int) : List Int := (List.range (b - a).toNat).map fun (i : Nat) => a + i
theorem rng_2 {a b : Int} {P : Bool → List D → Prop} : wRng [.val (.int a), .val (.int b)] P = ((-(2 ^ 62) ≤ a ∧ a < 2 ^ 62 ∧ -(2 ^ 62) ≤ b ∧ b < 2 ^ 62) ∧ P false ((rgAB a b).map D.int)) := by
  simp only [wRng, rgAB, List.map_map]
  rfl
theorem mem_rgAB {a b i : Int} : i ∈ rgAB a b ↔ a ≤ i ∧ i < b := by
  unfold rgAB
  rw [List.mem_map]
  constructor
  · rintro ⟨j, hj, rfl⟩
    have := List.mem_range.mp hj
    omega
  · rintro ⟨h1, h2⟩
    exact ⟨(i - a).toNat, List.mem_range.mpr (by omega), by omega⟩
theorem eqv_ints (c : List PyData → PyData) : ∀ xs ys : List Int, PyData.eqvAll (xs.map PyData.int) (ys.map PyData.int) = decide (xs = ys)
  | [], [] => rfl
  | [], y :: ys => by simp [PyData.eqvAll]
  | x :: xs, [] => by simp [PyData.eqvAll]
  | x :: xs, y :: ys => by
    have ih := eqv_ints c xs ys
    simp only [List.map_cons, PyData.eqvAll, ih, PyData.eqv]
    by_cases h1 : x = y <;> by_cases h2 : xs = ys <;> simp [h1, h2]
theorem shaped_tup (xs : List Int) : SeqAt.shaped (.tuple (xs.map PyData.int)) = true := by
  simp [SeqAt.shaped, PyData.canLay0, (ints_lay xs).1, PyData.depth, (ints_lay xs).2]
theorem wEq_li {neg : Bool} {xs ys : List Int} {P : R → Prop} (h : P (.val (.bl (neg ^^ decide (xs = ys))))) : wEq neg (li xs) (li ys) P := by
  unfold wEq
  exact ⟨_, _, by simp [D.py, ints_py], by simp [D.py, ints_py], ints_shaped xs, ints_shaped ys, by simpa [PyData.eqv, eqv_ints PyData.list] using h⟩
theorem wEq_ti {neg : Bool} {xs ys : List Int} {P : R → Prop} (h : P (.val (.bl (neg ^^ decide (xs = ys))))) : wEq neg (ti xs) (ti ys) P := by
  unfold wEq
  exact ⟨_, _, by simp [D.py, ints_py], by simp [D.py, ints_py], shaped_tup xs, shaped_tup ys, by simpa [PyData.eqv, eqv_ints PyData.list] using h⟩
theorem wBi_len {a : R} {P : R → Prop} : wBi "len" [a] P = (match a.len with | some n => P (.val (.int n)) | none => False) := by unfold wBi; simp only [if_true]; try rfl
theorem wBi_abs {i : Int} {P : R → Prop} : wBi "abs" [.val (.int i)] P = P (.val (.int (if i < 0 then -i else i))) := by simp [wBi]
theorem wBi_min2 {i j : Int} {P : R → Prop} : wBi "min" [.val (.int i), .val (.int j)] P = P (.val (.int (min i j))) := by
  have e : (if j < i then j else i) = min i j := by split <;> omega
  simp [wBi, e]
theorem wBi_max2 {i j : Int} {P : R → Prop} : wBi "max" [.val (.int i), .val (.int j)] P = P (.val (.int (max i j))) := by
  have e : (if i < j then j else i) = max i j := by split <;> omega
  simp [wBi, e]
theorem wEq_int {neg : Bool} {i j : Int} {P : R → Prop} : wEq neg (.int i) (.int j) P = P (.val (.bl (neg ^^ decide (i = j)))) := rfl
theorem wEq_str {neg : Bool} {i j : Str} {P : R → Prop} : wEq neg (.str i) (.str j) P = P (.val (.bl (neg ^^ decide (i = j)))) := rfl
theorem wEq_bl {neg : Bool} {i j : Bool} {P : R → Prop} : wEq neg (.bl i) (.bl j) P = P (.val (.bl (neg ^^ decide (i = j)))) := rfl
theorem size_big {n : Nat} (h : n ≤ 10000000) : n < sizeLine := by rw [sizeLine_eq]; omega
end Dl

set_option Elab.async false
set_option linter.all false
set_option maxRecDepth 100000
set_option maxHeartbeats 4000000
/-! Dl: the daily links: what each def tells. -/
namespace Dl
open PySem PySem.Spec PyProof.Rows L2
def n_is_number : List Str := ["thing"]
def ir_is_number : St :=
(.seq (.ret (.and_ (.isi (.var 0) [.b "int"]) (.not_ (.isi (.var 0) [.b "bool"]))))
  .skip)
def n_is_ride : List Str := ["thing"]
def ir_is_ride : St :=
(.seq (.ifs (.or_ (.not_ (.tr (.isi (.var 0) [.b "tuple"]))) (.or_ (.cmp .ne (.bi "len" (.cons (.var 0) .nil)) (eI 2)) (.or_ (.not_ (.tr (.call "is_number" (.cons (.idx (.var 0) (eI 0)) .nil)))) (.not_ (.tr (.call "is_number" (.cons (.idx (.var 0) (eI 1)) .nil))))))) (.seq (.ret (.cst (.bl false)))
  .skip) .skip)
  (.seq (.ret (.cmp .le (.idx (.var 0) (eI 0)) (.idx (.var 0) (eI 1))))
  .skip))
def n_is_length : List Str := ["thing"]
def ir_is_length : St :=
(.seq (.ret (.and_ (.call "is_number" (.cons (.var 0) .nil)) (.chn .le .le (eI 1) (.var 0) (.glc "MOST_LENGTH"))))
  .skip)
def n_need_length : List Str := ["length"]
def ir_need_length : St :=
(.seq (.ifs (.not_ (.tr (.call "is_length" (.cons (.var 0) .nil)))) (.seq .never
  .skip) .skip)
  .skip)
def n_need_numbers : List Str := ["numbers", "number"]
def ir_need_numbers : St :=
(.seq (.ifs (.not_ (.tr (.bi "all" (.cons (.comp (.call "is_number" (.cons (.var 1) .nil)) (.nm 1) (.itV (.var 0)) .nil [("number", 1)] 64) .nil)))) (.seq .never
  .skip) .skip)
  .skip)
def n_led_on : List Str := ["ends", "number", "length"]
def ir_led_on : St :=
(.seq (.asg (.nm 2) (.bi "len" (.cons (.var 0) .nil)))
  (.seq (.ret (.bin .add (.idx (.var 0) (.bin .mod (.var 1) (.var 2))) (.bin .mul (.var 2) (.bin .fdiv (.var 1) (.var 2)))))
  .skip))
def n_led_back : List Str := ["ends", "number", "length", "at", "end"]
def ir_led_back : St :=
(.seq (.asg (.nm 2) (.bi "len" (.cons (.var 0) .nil)))
  (.seq (.ret (.bi "max" (.cons (.comp (.bin .add (.var 3) (.bin .mul (.var 2) (.bin .fdiv (.bin .sub (.var 1) (.var 4)) (.var 2)))) (.t2 (.nm 3) (.nm 4)) (.itEnum (.var 0)) .nil [("at", 3), ("end", 4)] 64) .nil)))
  .skip))
def n_ends_of : List Str := ["length", "rides", "found", "number", "begin", "end"]
def ir_ends_of : St :=
(.seq (.asg (.nm 2) (.lst .nil))
  (.seq (.for_ (.nm 3) (.itRng (.cons (.var 0) .nil)) 64 (.seq (.app 2 (.bi "min" (.cons (.comp (.bin .sub (.var 5) (.bin .mul (.var 0) (.bin .fdiv (.bin .sub (.var 4) (.var 3)) (.var 0)))) (.t2 (.nm 4) (.nm 5)) (.itV (.var 1)) .nil [("begin", 4), ("end", 5)] 64) .nil)))
  .skip))
  (.seq (.frz 2)
  (.seq (.ret (.ty "tuple" (.cons (.var 2) .nil)))
  .skip))))
def n_daily_by : List Str := ["ends", "number", "end"]
def ir_daily_by : St :=
(.seq (.ret (.mk "Daily" (.cons (.bi "len" (.cons (.var 0) .nil)) (.cons (.comp (.tup (.cons (.var 1) (.cons (.var 2) .nil))) (.t2 (.nm 1) (.nm 2)) (.itEnum (.var 0)) .nil [("number", 1), ("end", 2)] 64) .nil))))
  .skip)
def n_Daily___init__ : List Str := ["self", "length", "rides", "at", "ride"]
def ir_Daily___init__ : St :=
(.seq (.drop (.call "need_length" (.cons (.var 1) .nil)))
  (.seq (.ifs (.or_ (.not_ (.tr (.isi (.var 2) [.b "list", .b "tuple"]))) (.cmp .eq (.bi "len" (.cons (.var 2) .nil)) (eI 0))) (.seq .never
  .skip) .skip)
  (.seq (.for_ (.t2 (.nm 3) (.nm 4)) (.itEnum (.var 2)) 64 (.seq (.ifs (.or_ (.cmp .eq (.var 3) (.glc "MOST_RIDES")) (.not_ (.tr (.call "is_ride" (.cons (.var 4) .nil))))) (.seq .never
  .skip) .skip)
  .skip))
  (.seq (.asgO 0 "own_ends" (.call "ends_of" (.cons (.var 1) (.cons (.var 2) .nil))))
  .skip))))
def n_Daily_length : List Str := ["self"]
def ir_Daily_length : St :=
(.seq (.ret (.bi "len" (.cons (.attr (.var 0) "own_ends") .nil)))
  .skip)
def n_Daily_rides : List Str := ["self", "at", "end"]
def ir_Daily_rides : St :=
(.seq (.ret (.ty "tuple" (.cons (.comp (.tup (.cons (.var 1) (.cons (.var 2) .nil))) (.t2 (.nm 1) (.nm 2)) (.itEnum (.attr (.var 0) "own_ends")) (.cons (.cmp .lt (.var 2) (.call "led_on" (.cons (.attr (.var 0) "own_ends") (.cons (.bin .add (.var 1) (eI 1)) .nil)))) .nil) [("at", 1), ("end", 2)] 64) .nil)))
  .skip)
def n_Daily_end : List Str := ["self", "number"]
def ir_Daily_end : St :=
(.seq (.drop (.call "need_numbers" (.cons (.var 1) .nil)))
  (.seq (.ret (.call "led_on" (.cons (.attr (.var 0) "own_ends") (.cons (.var 1) .nil))))
  .skip))
def n_Daily_begin : List Str := ["self", "number"]
def ir_Daily_begin : St :=
(.seq (.drop (.call "need_numbers" (.cons (.var 1) .nil)))
  (.seq (.ret (.call "led_back" (.cons (.attr (.var 0) "own_ends") (.cons (.var 1) .nil))))
  .skip))
def n_Daily_need_like : List Str := ["self", "other"]
def ir_Daily_need_like : St :=
(.seq (.ifs (.cmp .ne (.prp "Daily" "length" (.var 1)) (.prp "Daily" "length" (.var 0))) (.seq .never
  .skip) .skip)
  .skip)
def n_Daily___eq__ : List Str := ["self", "other"]
def ir_Daily___eq__ : St :=
(.seq (.ret (.and_ (.isi (.var 1) [.c "Daily"]) (.cmp .eq (.attr (.var 0) "own_ends") (.attr (.var 1) "own_ends"))))
  .skip)
def n_Daily___mul__ : List Str := ["self", "other", "end"]
def ir_Daily___mul__ : St :=
(.seq (.drop (.meth "Daily" "need_like" (.var 0) (.cons (.var 1) .nil)))
  (.seq (.ret (.call "daily_by" (.cons (.comp (.call "led_on" (.cons (.attr (.var 1) "own_ends") (.cons (.var 2) .nil))) (.nm 2) (.itV (.attr (.var 0) "own_ends")) .nil [("end", 2)] 64) .nil)))
  .skip))
def n_Daily___or__ : List Str := ["self", "other", "one", "two"]
def ir_Daily___or__ : St :=
(.seq (.drop (.meth "Daily" "need_like" (.var 0) (.cons (.var 1) .nil)))
  (.seq (.ret (.call "daily_by" (.cons (.comp (.bi "min" (.cons (.var 2) (.cons (.var 3) .nil))) (.t2 (.nm 2) (.nm 3)) (.itZip (.attr (.var 0) "own_ends") (.attr (.var 1) "own_ends")) .nil [("one", 2), ("two", 3)] 64) .nil)))
  .skip))
def n_Daily___and__ : List Str := ["self", "other", "one", "two"]
def ir_Daily___and__ : St :=
(.seq (.drop (.meth "Daily" "need_like" (.var 0) (.cons (.var 1) .nil)))
  (.seq (.ret (.call "daily_by" (.cons (.comp (.bi "max" (.cons (.var 2) (.cons (.var 3) .nil))) (.t2 (.nm 2) (.nm 3)) (.itZip (.attr (.var 0) "own_ends") (.attr (.var 1) "own_ends")) .nil [("one", 2), ("two", 3)] 64) .nil)))
  .skip))
def n_Daily___invert__ : List Str := ["self", "number"]
def ir_Daily___invert__ : St :=
(.seq (.ret (.call "daily_by" (.cons (.comp (.bin .sub (eI 0) (.call "led_back" (.cons (.attr (.var 0) "own_ends") (.cons (.bin .sub (eI 0) (.var 1)) .nil)))) (.nm 1) (.itRng (.cons (.prp "Daily" "length" (.var 0)) .nil)) .nil [("number", 1)] 64) .nil)))
  .skip)
def n_Daily___le__ : List Str := ["self", "other", "one", "two"]
def ir_Daily___le__ : St :=
(.seq (.drop (.meth "Daily" "need_like" (.var 0) (.cons (.var 1) .nil)))
  (.seq (.ret (.bi "all" (.cons (.comp (.cmp .le (.var 2) (.var 3)) (.t2 (.nm 2) (.nm 3)) (.itZip (.attr (.var 0) "own_ends") (.attr (.var 1) "own_ends")) .nil [("one", 2), ("two", 3)] 64) .nil)))
  .skip))

abbrev KnF (C : Ct) (x : Str) (f : FS) (b : Nat) : Prop := C.fn x = some f ∧ C.cf x = b
abbrev KnI (C : Ct) (x : Str) (f : FS) (b : Nat) : Prop := C.ini x = some f ∧ C.cf x = b
abbrev KnM (C : Ct) (c m : Str) (f : FS) (b : Nat) : Prop := C.me c m = some f ∧ C.cm c m = b
abbrev KnP (C : Ct) (c p : Str) (f : FS) : Prop := C.pr c p = some f
def D.isInt : D → Bool
  | .int _ => true
  | _ => false
def D.base : D → Bool
  | .obj _ _ => false
  | _ => true
/-! ### promises -/
def fsIsNumber : FS := fsD [.v] (fun d : D => [.val d]) (fun d => d.base = true) (fun d r => r = .val (.bl d.isInt))
def fsIsRide : FS := fsD [.v] (fun p : Int × Int => [.val (p2 p)]) (fun _ => True) (fun p r => r = .val (.bl (decide (p.1 ≤ p.2))))
def fsIsLength : FS := fsD [.v] (fun n : Int => [.val (.int n)]) (fun _ => True) (fun n r => r = .val (.bl (decide (1 ≤ n ∧ n ≤ 60))))
def fsNeedLength : FS := fsD [.v] (fun n : Int => [.val (.int n)]) (fun n => 1 ≤ n ∧ n ≤ 60) (fun _ r => r = .val .non)
def fsNeedNumbers : FS := fsD [.v] (fun xs : List Int => [.val (ti xs)]) (fun xs => xs.length ≤ 60) (fun _ r => r = .val .non)
def ledOn (es : List Int) (n : Int) : Int := es.getD (n % es.length).toNat 0 + es.length * (n / es.length)
def ledBack (es : List Int) (n : Int) : Int := mx ((en es).map fun p => p.1 + es.length * ((n - p.2) / es.length))
def endsOf (l : Nat) (rs : List (Int × Int)) : List Int := (rg l).map fun n => mn (rs.map fun p => p.2 - l * ((p.1 - n) / l))
def fsLedOn : FS := fsD [.v, .v] (fun a : List Int × Int => [.val (ti a.1), .val (.int a.2)]) (fun a => 1 ≤ a.1.length ∧ a.1.length ≤ 60) (fun a r => r = .val (.int (ledOn a.1 a.2)))
def fsLedBack : FS := fsD [.v, .v] (fun a : List Int × Int => [.val (ti a.1), .val (.int a.2)]) (fun a => 1 ≤ a.1.length ∧ a.1.length ≤ 60) (fun a r => r = .val (.int (ledBack a.1 a.2)))
def fsEndsOf : FS := fsD [.v, .a] (fun a : Nat × SqK × List (Int × Int) => [.val (.int a.1), sqR a.2.1 (a.2.2.map p2)]) (fun a => 1 ≤ a.1 ∧ a.1 ≤ 60 ∧ a.2.2 ≠ [] ∧ a.2.2.length ≤ 60) (fun a r => r = .val (ti (endsOf a.1 a.2.2)))
def dailyD (es : List Int) : D := .obj "Daily" [("own_ends", ti es)]
def fsDaily : FS := fsD [.v, .a] (fun a : Nat × SqK × List (Int × Int) => [.val (.int a.1), sqR a.2.1 (a.2.2.map p2)]) (fun a => 1 ≤ a.1 ∧ a.1 ≤ 60 ∧ a.2.2 ≠ [] ∧ a.2.2.length ≤ 60 ∧ ∀ p ∈ a.2.2, p.1 ≤ p.2) (fun a r => r = .val (dailyD (endsOf a.1 a.2.2)))
def okEnds (es : List Int) : Prop := 1 ≤ es.length ∧ es.length ≤ 60 ∧ ∀ p ∈ en es, p.1 ≤ p.2
def fsDailyBy : FS := fsD [.v] (fun a : Bool × List Int => [.val (sq a.1 (a.2.map D.int))]) (fun a => okEnds a.2) (fun a r => r = .val (dailyD (endsOf a.2.length (en a.2))))
def small (es : List Int) : Prop := 1 ≤ es.length ∧ es.length ≤ 60
def fsDLen : FS := fsD [.v] (fun es : List Int => [.val (dailyD es)]) small (fun es r => r = .val (.int es.length))
def needed (es : List Int) : List (Int × Int) := (en es).filter fun p => decide (p.2 < ledOn es (p.1 + 1))
def fsDRides : FS := fsD [.v] (fun es : List Int => [.val (dailyD es)]) small (fun es r => r = .val (.tup ((needed es).map p2)))
def fsDEnd : FS := fsD [.v, .v] (fun a : List Int × Int => [.val (dailyD a.1), .val (.int a.2)]) (fun a => small a.1) (fun a r => r = .val (.int (ledOn a.1 a.2)))
def fsDBegin : FS := fsD [.v, .v] (fun a : List Int × Int => [.val (dailyD a.1), .val (.int a.2)]) (fun a => small a.1) (fun a r => r = .val (.int (ledBack a.1 a.2)))
abbrev twoD (a : List Int × List Int) : List R := [.val (dailyD a.1), .val (dailyD a.2)]
abbrev like (a : List Int × List Int) : Prop := small a.1 ∧ a.2.length = a.1.length
def fsDLike : FS := fsD [.v, .v] twoD like (fun _ r => r = .val .non)
def fsDEq : FS := fsD [.v, .v] (fun a : List Int × (List Int ⊕ List D) => [.val (dailyD a.1), .val (match a.2 with | .inl ys => dailyD ys | .inr xs => .tup xs)]) (fun _ => True) (fun a r => r = .val (.bl (match a.2 with | .inl ys => decide (a.1 = ys) | .inr _ => false)))
def thenE (xs ys : List Int) : List Int := xs.map fun e => ledOn ys e
def minE (xs ys : List Int) : List Int := (xs.zip ys).map fun p => min p.1 p.2
def maxE (xs ys : List Int) : List Int := (xs.zip ys).map fun p => max p.1 p.2
def invE (xs : List Int) : List Int := (rg xs.length).map fun n => 0 - ledBack xs (0 - n)
def leE (xs ys : List Int) : Bool := ((xs.zip ys).map fun p => decide (p.1 ≤ p.2)).all id
def fsDMul : FS := fsD [.v, .v] twoD (fun a => like a ∧ okEnds (thenE a.1 a.2)) (fun a r => r = .val (dailyD (endsOf a.1.length (en (thenE a.1 a.2)))))
def fsDOr : FS := fsD [.v, .v] twoD (fun a => like a ∧ okEnds (minE a.1 a.2)) (fun a r => r = .val (dailyD (endsOf a.1.length (en (minE a.1 a.2)))))
def fsDAnd : FS := fsD [.v, .v] twoD (fun a => like a ∧ okEnds (maxE a.1 a.2)) (fun a r => r = .val (dailyD (endsOf a.1.length (en (maxE a.1 a.2)))))
def fsDInv : FS := fsD [.v] (fun es : List Int => [.val (dailyD es)]) (fun es => small es ∧ okEnds (invE es)) (fun es r => r = .val (dailyD (endsOf es.length (en (invE es)))))
def fsDLe : FS := fsD [.v, .v] twoD like (fun a r => r = .val (.bl (leE a.1 a.2)))
/-! ### they are kept -/
section
variable {C : Ct}
theorem is_number_keeps (hi : IsaOk C) : Keeps C ir_is_number n_is_number ["thing"] fsIsNumber := by
  refine keeps_of fun d P X hd hP => ⟨rfl, ?_⟩
  have hP := hP _ rfl
  have i1 : ∀ a, isaB (.b a) (.b "int") = some false → C.isa (.b a) (.b "int") = some false := fun a h => hi.le _ _ _ h
  have i2 : C.isa (.b "bool") (.b "int") = some true := hi.le _ _ _ rfl
  have i3 : C.isa (.b "bool") (.b "bool") = some true := hi.le _ _ _ rfl
  have i4 : C.isa (.b "int") (.b "int") = some true := hi.le _ _ _ rfl
  have i5 : C.isa (.b "int") (.b "bool") = some false := hi.le _ _ _ rfl
  cases d with
  | obj c fs => cases hd
  | int i => simp [ir_is_number, n_is_number, wS, wE, wEs, wT, wC, wO, wIt, wipeD, frzD, Cst.d, asAll, startD, wEq_int, wEq_str, wEq_bl, wBi_len, wBi_abs, wBi_min2, wBi_max2, see_val, see_fresh, see_brw, dat_val, dat_fresh, out_val, out_fresh, out_stt, tru_non, tru_bl, tru_int, tru_lst, tru_tup, tru_fresh, tru_brw, as_vv, as_vf, as_s, as_av, as_af, as_ab, as_bf, as_bb, as_bl, lv_lst, lv_fresh, lv_brw, int_int, len_lst, len_tup, len_frl, len_fresh, len_brw, rd_val, rd_own, rd_bor, rd_stt, it_lst, it_tup, it_frl, it_fresh, it_brw, bin_add, bin_sub, bin_mul, bin_fdiv, bin_mod, bin_pow, bin_str, cat_vv, cat_vf, cat_vb, rep_v, cat_fv, cat_ff, cat_fb, rep_f, cat_bv, cat_bf, cat_bb, rep_b, cmp_eq_vv, cmp_eq_fv, cmp_eq_vf, cmp_eq_ff, cmp_eq_fb, cmp_eq_bv, cmp_eq_vb, cmp_eq_bf, cmp_eq_bb, cmp_ne_vv, cmp_ne_fv, cmp_ne_vf, cmp_ne_ff, cmp_ne_fb, cmp_ne_bv, cmp_ne_vb, cmp_ne_bf, cmp_ne_bb, cmp_lt, cmp_le, cmp_gt, cmp_ge, cmp_is_non, cmp_isn_non, cmp_is_bl, cmp_isn_bl, isNon_non, isNon_int, isNon_str, isNon_lst, isNon_tup, isNon_frl, isNon_obj, isNon_bl, ix_tup, ix_v, ix_f, ix_b, tg_nm, tg_t2, tg_t3, asg_nm, asg_t2, asg_t3, nm_val, nm_fresh, nm_stt, sl_val, sl_brw, sl_stt, ty_int, ty_tt, ty_tv, ty_lv, ty_tf, ty_lf, ty_tb, ty_lb, ty_lt, slc_tup, slc_v, slc_f, slc_b, slc_str, ti, li, p2, it_sq, len_sq, rng_1, rng_2, it_sqR, len_sqR, rd_sqR, as_sqR, D.clsOk, D.tyOf, isaAny, i4, i5]; exact hP
  | bl b => simp [ir_is_number, n_is_number, wS, wE, wEs, wT, wC, wO, wIt, wipeD, frzD, Cst.d, asAll, startD, wEq_int, wEq_str, wEq_bl, wBi_len, wBi_abs, wBi_min2, wBi_max2, see_val, see_fresh, see_brw, dat_val, dat_fresh, out_val, out_fresh, out_stt, tru_non, tru_bl, tru_int, tru_lst, tru_tup, tru_fresh, tru_brw, as_vv, as_vf, as_s, as_av, as_af, as_ab, as_bf, as_bb, as_bl, lv_lst, lv_fresh, lv_brw, int_int, len_lst, len_tup, len_frl, len_fresh, len_brw, rd_val, rd_own, rd_bor, rd_stt, it_lst, it_tup, it_frl, it_fresh, it_brw, bin_add, bin_sub, bin_mul, bin_fdiv, bin_mod, bin_pow, bin_str, cat_vv, cat_vf, cat_vb, rep_v, cat_fv, cat_ff, cat_fb, rep_f, cat_bv, cat_bf, cat_bb, rep_b, cmp_eq_vv, cmp_eq_fv, cmp_eq_vf, cmp_eq_ff, cmp_eq_fb, cmp_eq_bv, cmp_eq_vb, cmp_eq_bf, cmp_eq_bb, cmp_ne_vv, cmp_ne_fv, cmp_ne_vf, cmp_ne_ff, cmp_ne_fb, cmp_ne_bv, cmp_ne_vb, cmp_ne_bf, cmp_ne_bb, cmp_lt, cmp_le, cmp_gt, cmp_ge, cmp_is_non, cmp_isn_non, cmp_is_bl, cmp_isn_bl, isNon_non, isNon_int, isNon_str, isNon_lst, isNon_tup, isNon_frl, isNon_obj, isNon_bl, ix_tup, ix_v, ix_f, ix_b, tg_nm, tg_t2, tg_t3, asg_nm, asg_t2, asg_t3, nm_val, nm_fresh, nm_stt, sl_val, sl_brw, sl_stt, ty_int, ty_tt, ty_tv, ty_lv, ty_tf, ty_lf, ty_tb, ty_lb, ty_lt, slc_tup, slc_v, slc_f, slc_b, slc_str, ti, li, p2, it_sq, len_sq, rng_1, rng_2, it_sqR, len_sqR, rd_sqR, as_sqR, D.clsOk, D.tyOf, isaAny, i2, i3]; exact hP
  | non => simp [ir_is_number, n_is_number, wS, wE, wEs, wT, wC, wO, wIt, wipeD, frzD, Cst.d, asAll, startD, wEq_int, wEq_str, wEq_bl, wBi_len, wBi_abs, wBi_min2, wBi_max2, see_val, see_fresh, see_brw, dat_val, dat_fresh, out_val, out_fresh, out_stt, tru_non, tru_bl, tru_int, tru_lst, tru_tup, tru_fresh, tru_brw, as_vv, as_vf, as_s, as_av, as_af, as_ab, as_bf, as_bb, as_bl, lv_lst, lv_fresh, lv_brw, int_int, len_lst, len_tup, len_frl, len_fresh, len_brw, rd_val, rd_own, rd_bor, rd_stt, it_lst, it_tup, it_frl, it_fresh, it_brw, bin_add, bin_sub, bin_mul, bin_fdiv, bin_mod, bin_pow, bin_str, cat_vv, cat_vf, cat_vb, rep_v, cat_fv, cat_ff, cat_fb, rep_f, cat_bv, cat_bf, cat_bb, rep_b, cmp_eq_vv, cmp_eq_fv, cmp_eq_vf, cmp_eq_ff, cmp_eq_fb, cmp_eq_bv, cmp_eq_vb, cmp_eq_bf, cmp_eq_bb, cmp_ne_vv, cmp_ne_fv, cmp_ne_vf, cmp_ne_ff, cmp_ne_fb, cmp_ne_bv, cmp_ne_vb, cmp_ne_bf, cmp_ne_bb, cmp_lt, cmp_le, cmp_gt, cmp_ge, cmp_is_non, cmp_isn_non, cmp_is_bl, cmp_isn_bl, isNon_non, isNon_int, isNon_str, isNon_lst, isNon_tup, isNon_frl, isNon_obj, isNon_bl, ix_tup, ix_v, ix_f, ix_b, tg_nm, tg_t2, tg_t3, asg_nm, asg_t2, asg_t3, nm_val, nm_fresh, nm_stt, sl_val, sl_brw, sl_stt, ty_int, ty_tt, ty_tv, ty_lv, ty_tf, ty_lf, ty_tb, ty_lb, ty_lt, slc_tup, slc_v, slc_f, slc_b, slc_str, ti, li, p2, it_sq, len_sq, rng_1, rng_2, it_sqR, len_sqR, rd_sqR, as_sqR, D.clsOk, D.tyOf, isaAny, i1 "NoneType" rfl]; exact hP
  | str b => simp [ir_is_number, n_is_number, wS, wE, wEs, wT, wC, wO, wIt, wipeD, frzD, Cst.d, asAll, startD, wEq_int, wEq_str, wEq_bl, wBi_len, wBi_abs, wBi_min2, wBi_max2, see_val, see_fresh, see_brw, dat_val, dat_fresh, out_val, out_fresh, out_stt, tru_non, tru_bl, tru_int, tru_lst, tru_tup, tru_fresh, tru_brw, as_vv, as_vf, as_s, as_av, as_af, as_ab, as_bf, as_bb, as_bl, lv_lst, lv_fresh, lv_brw, int_int, len_lst, len_tup, len_frl, len_fresh, len_brw, rd_val, rd_own, rd_bor, rd_stt, it_lst, it_tup, it_frl, it_fresh, it_brw, bin_add, bin_sub, bin_mul, bin_fdiv, bin_mod, bin_pow, bin_str, cat_vv, cat_vf, cat_vb, rep_v, cat_fv, cat_ff, cat_fb, rep_f, cat_bv, cat_bf, cat_bb, rep_b, cmp_eq_vv, cmp_eq_fv, cmp_eq_vf, cmp_eq_ff, cmp_eq_fb, cmp_eq_bv, cmp_eq_vb, cmp_eq_bf, cmp_eq_bb, cmp_ne_vv, cmp_ne_fv, cmp_ne_vf, cmp_ne_ff, cmp_ne_fb, cmp_ne_bv, cmp_ne_vb, cmp_ne_bf, cmp_ne_bb, cmp_lt, cmp_le, cmp_gt, cmp_ge, cmp_is_non, cmp_isn_non, cmp_is_bl, cmp_isn_bl, isNon_non, isNon_int, isNon_str, isNon_lst, isNon_tup, isNon_frl, isNon_obj, isNon_bl, ix_tup, ix_v, ix_f, ix_b, tg_nm, tg_t2, tg_t3, asg_nm, asg_t2, asg_t3, nm_val, nm_fresh, nm_stt, sl_val, sl_brw, sl_stt, ty_int, ty_tt, ty_tv, ty_lv, ty_tf, ty_lf, ty_tb, ty_lb, ty_lt, slc_tup, slc_v, slc_f, slc_b, slc_str, ti, li, p2, it_sq, len_sq, rng_1, rng_2, it_sqR, len_sqR, rd_sqR, as_sqR, D.clsOk, D.tyOf, isaAny, i1 "str" rfl]; exact hP
  | lst b => simp [ir_is_number, n_is_number, wS, wE, wEs, wT, wC, wO, wIt, wipeD, frzD, Cst.d, asAll, startD, wEq_int, wEq_str, wEq_bl, wBi_len, wBi_abs, wBi_min2, wBi_max2, see_val, see_fresh, see_brw, dat_val, dat_fresh, out_val, out_fresh, out_stt, tru_non, tru_bl, tru_int, tru_lst, tru_tup, tru_fresh, tru_brw, as_vv, as_vf, as_s, as_av, as_af, as_ab, as_bf, as_bb, as_bl, lv_lst, lv_fresh, lv_brw, int_int, len_lst, len_tup, len_frl, len_fresh, len_brw, rd_val, rd_own, rd_bor, rd_stt, it_lst, it_tup, it_frl, it_fresh, it_brw, bin_add, bin_sub, bin_mul, bin_fdiv, bin_mod, bin_pow, bin_str, cat_vv, cat_vf, cat_vb, rep_v, cat_fv, cat_ff, cat_fb, rep_f, cat_bv, cat_bf, cat_bb, rep_b, cmp_eq_vv, cmp_eq_fv, cmp_eq_vf, cmp_eq_ff, cmp_eq_fb, cmp_eq_bv, cmp_eq_vb, cmp_eq_bf, cmp_eq_bb, cmp_ne_vv, cmp_ne_fv, cmp_ne_vf, cmp_ne_ff, cmp_ne_fb, cmp_ne_bv, cmp_ne_vb, cmp_ne_bf, cmp_ne_bb, cmp_lt, cmp_le, cmp_gt, cmp_ge, cmp_is_non, cmp_isn_non, cmp_is_bl, cmp_isn_bl, isNon_non, isNon_int, isNon_str, isNon_lst, isNon_tup, isNon_frl, isNon_obj, isNon_bl, ix_tup, ix_v, ix_f, ix_b, tg_nm, tg_t2, tg_t3, asg_nm, asg_t2, asg_t3, nm_val, nm_fresh, nm_stt, sl_val, sl_brw, sl_stt, ty_int, ty_tt, ty_tv, ty_lv, ty_tf, ty_lf, ty_tb, ty_lb, ty_lt, slc_tup, slc_v, slc_f, slc_b, slc_str, ti, li, p2, it_sq, len_sq, rng_1, rng_2, it_sqR, len_sqR, rd_sqR, as_sqR, D.clsOk, D.tyOf, isaAny, i1 "list" rfl]; exact hP
  | tup b => simp [ir_is_number, n_is_number, wS, wE, wEs, wT, wC, wO, wIt, wipeD, frzD, Cst.d, asAll, startD, wEq_int, wEq_str, wEq_bl, wBi_len, wBi_abs, wBi_min2, wBi_max2, see_val, see_fresh, see_brw, dat_val, dat_fresh, out_val, out_fresh, out_stt, tru_non, tru_bl, tru_int, tru_lst, tru_tup, tru_fresh, tru_brw, as_vv, as_vf, as_s, as_av, as_af, as_ab, as_bf, as_bb, as_bl, lv_lst, lv_fresh, lv_brw, int_int, len_lst, len_tup, len_frl, len_fresh, len_brw, rd_val, rd_own, rd_bor, rd_stt, it_lst, it_tup, it_frl, it_fresh, it_brw, bin_add, bin_sub, bin_mul, bin_fdiv, bin_mod, bin_pow, bin_str, cat_vv, cat_vf, cat_vb, rep_v, cat_fv, cat_ff, cat_fb, rep_f, cat_bv, cat_bf, cat_bb, rep_b, cmp_eq_vv, cmp_eq_fv, cmp_eq_vf, cmp_eq_ff, cmp_eq_fb, cmp_eq_bv, cmp_eq_vb, cmp_eq_bf, cmp_eq_bb, cmp_ne_vv, cmp_ne_fv, cmp_ne_vf, cmp_ne_ff, cmp_ne_fb, cmp_ne_bv, cmp_ne_vb, cmp_ne_bf, cmp_ne_bb, cmp_lt, cmp_le, cmp_gt, cmp_ge, cmp_is_non, cmp_isn_non, cmp_is_bl, cmp_isn_bl, isNon_non, isNon_int, isNon_str, isNon_lst, isNon_tup, isNon_frl, isNon_obj, isNon_bl, ix_tup, ix_v, ix_f, ix_b, tg_nm, tg_t2, tg_t3, asg_nm, asg_t2, asg_t3, nm_val, nm_fresh, nm_stt, sl_val, sl_brw, sl_stt, ty_int, ty_tt, ty_tv, ty_lv, ty_tf, ty_lf, ty_tb, ty_lb, ty_lt, slc_tup, slc_v, slc_f, slc_b, slc_str, ti, li, p2, it_sq, len_sq, rng_1, rng_2, it_sqR, len_sqR, rd_sqR, as_sqR, D.clsOk, D.tyOf, isaAny, i1 "tuple" rfl]; exact hP
  | frl b => simp [ir_is_number, n_is_number, wS, wE, wEs, wT, wC, wO, wIt, wipeD, frzD, Cst.d, asAll, startD, wEq_int, wEq_str, wEq_bl, wBi_len, wBi_abs, wBi_min2, wBi_max2, see_val, see_fresh, see_brw, dat_val, dat_fresh, out_val, out_fresh, out_stt, tru_non, tru_bl, tru_int, tru_lst, tru_tup, tru_fresh, tru_brw, as_vv, as_vf, as_s, as_av, as_af, as_ab, as_bf, as_bb, as_bl, lv_lst, lv_fresh, lv_brw, int_int, len_lst, len_tup, len_frl, len_fresh, len_brw, rd_val, rd_own, rd_bor, rd_stt, it_lst, it_tup, it_frl, it_fresh, it_brw, bin_add, bin_sub, bin_mul, bin_fdiv, bin_mod, bin_pow, bin_str, cat_vv, cat_vf, cat_vb, rep_v, cat_fv, cat_ff, cat_fb, rep_f, cat_bv, cat_bf, cat_bb, rep_b, cmp_eq_vv, cmp_eq_fv, cmp_eq_vf, cmp_eq_ff, cmp_eq_fb, cmp_eq_bv, cmp_eq_vb, cmp_eq_bf, cmp_eq_bb, cmp_ne_vv, cmp_ne_fv, cmp_ne_vf, cmp_ne_ff, cmp_ne_fb, cmp_ne_bv, cmp_ne_vb, cmp_ne_bf, cmp_ne_bb, cmp_lt, cmp_le, cmp_gt, cmp_ge, cmp_is_non, cmp_isn_non, cmp_is_bl, cmp_isn_bl, isNon_non, isNon_int, isNon_str, isNon_lst, isNon_tup, isNon_frl, isNon_obj, isNon_bl, ix_tup, ix_v, ix_f, ix_b, tg_nm, tg_t2, tg_t3, asg_nm, asg_t2, asg_t3, nm_val, nm_fresh, nm_stt, sl_val, sl_brw, sl_stt, ty_int, ty_tt, ty_tv, ty_lv, ty_tf, ty_lf, ty_tb, ty_lb, ty_lt, slc_tup, slc_v, slc_f, slc_b, slc_str, ti, li, p2, it_sq, len_sq, rng_1, rng_2, it_sqR, len_sqR, rd_sqR, as_sqR, D.clsOk, D.tyOf, isaAny, i1 "list" rfl]; exact hP
  | dct b => simp [ir_is_number, n_is_number, wS, wE, wEs, wT, wC, wO, wIt, wipeD, frzD, Cst.d, asAll, startD, wEq_int, wEq_str, wEq_bl, wBi_len, wBi_abs, wBi_min2, wBi_max2, see_val, see_fresh, see_brw, dat_val, dat_fresh, out_val, out_fresh, out_stt, tru_non, tru_bl, tru_int, tru_lst, tru_tup, tru_fresh, tru_brw, as_vv, as_vf, as_s, as_av, as_af, as_ab, as_bf, as_bb, as_bl, lv_lst, lv_fresh, lv_brw, int_int, len_lst, len_tup, len_frl, len_fresh, len_brw, rd_val, rd_own, rd_bor, rd_stt, it_lst, it_tup, it_frl, it_fresh, it_brw, bin_add, bin_sub, bin_mul, bin_fdiv, bin_mod, bin_pow, bin_str, cat_vv, cat_vf, cat_vb, rep_v, cat_fv, cat_ff, cat_fb, rep_f, cat_bv, cat_bf, cat_bb, rep_b, cmp_eq_vv, cmp_eq_fv, cmp_eq_vf, cmp_eq_ff, cmp_eq_fb, cmp_eq_bv, cmp_eq_vb, cmp_eq_bf, cmp_eq_bb, cmp_ne_vv, cmp_ne_fv, cmp_ne_vf, cmp_ne_ff, cmp_ne_fb, cmp_ne_bv, cmp_ne_vb, cmp_ne_bf, cmp_ne_bb, cmp_lt, cmp_le, cmp_gt, cmp_ge, cmp_is_non, cmp_isn_non, cmp_is_bl, cmp_isn_bl, isNon_non, isNon_int, isNon_str, isNon_lst, isNon_tup, isNon_frl, isNon_obj, isNon_bl, ix_tup, ix_v, ix_f, ix_b, tg_nm, tg_t2, tg_t3, asg_nm, asg_t2, asg_t3, nm_val, nm_fresh, nm_stt, sl_val, sl_brw, sl_stt, ty_int, ty_tt, ty_tv, ty_lv, ty_tf, ty_lf, ty_tb, ty_lb, ty_lt, slc_tup, slc_v, slc_f, slc_b, slc_str, ti, li, p2, it_sq, len_sq, rng_1, rng_2, it_sqR, len_sqR, rd_sqR, as_sqR, D.clsOk, D.tyOf, isaAny, i1 "dict" rfl]; exact hP
theorem is_ride_keeps (hi : IsaOk C) (h1 : KnF C "is_number" fsIsNumber 0) : Keeps C ir_is_ride n_is_ride ["thing"] fsIsRide := by
  refine keeps_of fun d P X hd hP => ⟨rfl, ?_⟩
  have hP := hP _ rfl
  have i4 : C.isa (.b "tuple") (.b "tuple") = some true := hi.le _ _ _ rfl
  obtain ⟨a, b⟩ := d
  simp [ir_is_ride, n_is_ride, wS, wE, wEs, wT, wC, wO, wIt, wipeD, frzD, Cst.d, asAll, startD, wEq_int, wEq_str, wEq_bl, wBi_len, wBi_abs, wBi_min2, wBi_max2, see_val, see_fresh, see_brw, dat_val, dat_fresh, out_val, out_fresh, out_stt, tru_non, tru_bl, tru_int, tru_lst, tru_tup, tru_fresh, tru_brw, as_vv, as_vf, as_s, as_av, as_af, as_ab, as_bf, as_bb, as_bl, lv_lst, lv_fresh, lv_brw, int_int, len_lst, len_tup, len_frl, len_fresh, len_brw, rd_val, rd_own, rd_bor, rd_stt, it_lst, it_tup, it_frl, it_fresh, it_brw, bin_add, bin_sub, bin_mul, bin_fdiv, bin_mod, bin_pow, bin_str, cat_vv, cat_vf, cat_vb, rep_v, cat_fv, cat_ff, cat_fb, rep_f, cat_bv, cat_bf, cat_bb, rep_b, cmp_eq_vv, cmp_eq_fv, cmp_eq_vf, cmp_eq_ff, cmp_eq_fb, cmp_eq_bv, cmp_eq_vb, cmp_eq_bf, cmp_eq_bb, cmp_ne_vv, cmp_ne_fv, cmp_ne_vf, cmp_ne_ff, cmp_ne_fb, cmp_ne_bv, cmp_ne_vb, cmp_ne_bf, cmp_ne_bb, cmp_lt, cmp_le, cmp_gt, cmp_ge, cmp_is_non, cmp_isn_non, cmp_is_bl, cmp_isn_bl, isNon_non, isNon_int, isNon_str, isNon_lst, isNon_tup, isNon_frl, isNon_obj, isNon_bl, ix_tup, ix_v, ix_f, ix_b, tg_nm, tg_t2, tg_t3, asg_nm, asg_t2, asg_t3, nm_val, nm_fresh, nm_stt, sl_val, sl_brw, sl_stt, ty_int, ty_tt, ty_tv, ty_lv, ty_tf, ty_lf, ty_tb, ty_lb, ty_lt, slc_tup, slc_v, slc_f, slc_b, slc_str, ti, li, p2, it_sq, len_sq, rng_1, rng_2, it_sqR, len_sqR, rd_sqR, as_sqR, D.clsOk, D.tyOf, isaAny, i4, h1.1, atI, ixN]
  refine wcall_of (D.int a) rfl rfl ?_
  rintro r rfl
  simp [D.isInt, wS, wE, wEs, wT, wC, wO, wIt, wipeD, frzD, Cst.d, asAll, startD, wEq_int, wEq_str, wEq_bl, wBi_len, wBi_abs, wBi_min2, wBi_max2, see_val, see_fresh, see_brw, dat_val, dat_fresh, out_val, out_fresh, out_stt, tru_non, tru_bl, tru_int, tru_lst, tru_tup, tru_fresh, tru_brw, as_vv, as_vf, as_s, as_av, as_af, as_ab, as_bf, as_bb, as_bl, lv_lst, lv_fresh, lv_brw, int_int, len_lst, len_tup, len_frl, len_fresh, len_brw, rd_val, rd_own, rd_bor, rd_stt, it_lst, it_tup, it_frl, it_fresh, it_brw, bin_add, bin_sub, bin_mul, bin_fdiv, bin_mod, bin_pow, bin_str, cat_vv, cat_vf, cat_vb, rep_v, cat_fv, cat_ff, cat_fb, rep_f, cat_bv, cat_bf, cat_bb, rep_b, cmp_eq_vv, cmp_eq_fv, cmp_eq_vf, cmp_eq_ff, cmp_eq_fb, cmp_eq_bv, cmp_eq_vb, cmp_eq_bf, cmp_eq_bb, cmp_ne_vv, cmp_ne_fv, cmp_ne_vf, cmp_ne_ff, cmp_ne_fb, cmp_ne_bv, cmp_ne_vb, cmp_ne_bf, cmp_ne_bb, cmp_lt, cmp_le, cmp_gt, cmp_ge, cmp_is_non, cmp_isn_non, cmp_is_bl, cmp_isn_bl, isNon_non, isNon_int, isNon_str, isNon_lst, isNon_tup, isNon_frl, isNon_obj, isNon_bl, ix_tup, ix_v, ix_f, ix_b, tg_nm, tg_t2, tg_t3, asg_nm, asg_t2, asg_t3, nm_val, nm_fresh, nm_stt, sl_val, sl_brw, sl_stt, ty_int, ty_tt, ty_tv, ty_lv, ty_tf, ty_lf, ty_tb, ty_lb, ty_lt, slc_tup, slc_v, slc_f, slc_b, slc_str, ti, li, p2, it_sq, len_sq, rng_1, rng_2, it_sqR, len_sqR, rd_sqR, as_sqR]
  refine wcall_of (D.int b) rfl rfl ?_
  rintro r rfl
  simp [D.isInt, wS, wE, wEs, wT, wC, wO, wIt, wipeD, frzD, Cst.d, asAll, startD, wEq_int, wEq_str, wEq_bl, wBi_len, wBi_abs, wBi_min2, wBi_max2, see_val, see_fresh, see_brw, dat_val, dat_fresh, out_val, out_fresh, out_stt, tru_non, tru_bl, tru_int, tru_lst, tru_tup, tru_fresh, tru_brw, as_vv, as_vf, as_s, as_av, as_af, as_ab, as_bf, as_bb, as_bl, lv_lst, lv_fresh, lv_brw, int_int, len_lst, len_tup, len_frl, len_fresh, len_brw, rd_val, rd_own, rd_bor, rd_stt, it_lst, it_tup, it_frl, it_fresh, it_brw, bin_add, bin_sub, bin_mul, bin_fdiv, bin_mod, bin_pow, bin_str, cat_vv, cat_vf, cat_vb, rep_v, cat_fv, cat_ff, cat_fb, rep_f, cat_bv, cat_bf, cat_bb, rep_b, cmp_eq_vv, cmp_eq_fv, cmp_eq_vf, cmp_eq_ff, cmp_eq_fb, cmp_eq_bv, cmp_eq_vb, cmp_eq_bf, cmp_eq_bb, cmp_ne_vv, cmp_ne_fv, cmp_ne_vf, cmp_ne_ff, cmp_ne_fb, cmp_ne_bv, cmp_ne_vb, cmp_ne_bf, cmp_ne_bb, cmp_lt, cmp_le, cmp_gt, cmp_ge, cmp_is_non, cmp_isn_non, cmp_is_bl, cmp_isn_bl, isNon_non, isNon_int, isNon_str, isNon_lst, isNon_tup, isNon_frl, isNon_obj, isNon_bl, ix_tup, ix_v, ix_f, ix_b, tg_nm, tg_t2, tg_t3, asg_nm, asg_t2, asg_t3, nm_val, nm_fresh, nm_stt, sl_val, sl_brw, sl_stt, ty_int, ty_tt, ty_tv, ty_lv, ty_tf, ty_lf, ty_tb, ty_lb, ty_lt, slc_tup, slc_v, slc_f, slc_b, slc_str, ti, li, p2, it_sq, len_sq, rng_1, rng_2, it_sqR, len_sqR, rd_sqR, as_sqR]
  exact hP
theorem is_length_keeps (h1 : KnF C "is_number" fsIsNumber 0) (h2 : C.gc "MOST_LENGTH" = some (.int 60)) : Keeps C ir_is_length n_is_length ["thing"] fsIsLength := by
  refine keeps_of fun n P X hd hP => ⟨rfl, ?_⟩
  have hP := hP _ rfl
  simp [ir_is_length, n_is_length, wS, wE, wEs, wT, wC, wO, wIt, wipeD, frzD, Cst.d, asAll, startD, wEq_int, wEq_str, wEq_bl, wBi_len, wBi_abs, wBi_min2, wBi_max2, see_val, see_fresh, see_brw, dat_val, dat_fresh, out_val, out_fresh, out_stt, tru_non, tru_bl, tru_int, tru_lst, tru_tup, tru_fresh, tru_brw, as_vv, as_vf, as_s, as_av, as_af, as_ab, as_bf, as_bb, as_bl, lv_lst, lv_fresh, lv_brw, int_int, len_lst, len_tup, len_frl, len_fresh, len_brw, rd_val, rd_own, rd_bor, rd_stt, it_lst, it_tup, it_frl, it_fresh, it_brw, bin_add, bin_sub, bin_mul, bin_fdiv, bin_mod, bin_pow, bin_str, cat_vv, cat_vf, cat_vb, rep_v, cat_fv, cat_ff, cat_fb, rep_f, cat_bv, cat_bf, cat_bb, rep_b, cmp_eq_vv, cmp_eq_fv, cmp_eq_vf, cmp_eq_ff, cmp_eq_fb, cmp_eq_bv, cmp_eq_vb, cmp_eq_bf, cmp_eq_bb, cmp_ne_vv, cmp_ne_fv, cmp_ne_vf, cmp_ne_ff, cmp_ne_fb, cmp_ne_bv, cmp_ne_vb, cmp_ne_bf, cmp_ne_bb, cmp_lt, cmp_le, cmp_gt, cmp_ge, cmp_is_non, cmp_isn_non, cmp_is_bl, cmp_isn_bl, isNon_non, isNon_int, isNon_str, isNon_lst, isNon_tup, isNon_frl, isNon_obj, isNon_bl, ix_tup, ix_v, ix_f, ix_b, tg_nm, tg_t2, tg_t3, asg_nm, asg_t2, asg_t3, nm_val, nm_fresh, nm_stt, sl_val, sl_brw, sl_stt, ty_int, ty_tt, ty_tv, ty_lv, ty_tf, ty_lf, ty_tb, ty_lb, ty_lt, slc_tup, slc_v, slc_f, slc_b, slc_str, ti, li, p2, it_sq, len_sq, rng_1, rng_2, it_sqR, len_sqR, rd_sqR, as_sqR, h1.1, h2]
  refine wcall_of (D.int n) rfl rfl ?_
  rintro r rfl
  simp [D.isInt, wS, wE, wEs, wT, wC, wO, wIt, wipeD, frzD, Cst.d, asAll, startD, wEq_int, wEq_str, wEq_bl, wBi_len, wBi_abs, wBi_min2, wBi_max2, see_val, see_fresh, see_brw, dat_val, dat_fresh, out_val, out_fresh, out_stt, tru_non, tru_bl, tru_int, tru_lst, tru_tup, tru_fresh, tru_brw, as_vv, as_vf, as_s, as_av, as_af, as_ab, as_bf, as_bb, as_bl, lv_lst, lv_fresh, lv_brw, int_int, len_lst, len_tup, len_frl, len_fresh, len_brw, rd_val, rd_own, rd_bor, rd_stt, it_lst, it_tup, it_frl, it_fresh, it_brw, bin_add, bin_sub, bin_mul, bin_fdiv, bin_mod, bin_pow, bin_str, cat_vv, cat_vf, cat_vb, rep_v, cat_fv, cat_ff, cat_fb, rep_f, cat_bv, cat_bf, cat_bb, rep_b, cmp_eq_vv, cmp_eq_fv, cmp_eq_vf, cmp_eq_ff, cmp_eq_fb, cmp_eq_bv, cmp_eq_vb, cmp_eq_bf, cmp_eq_bb, cmp_ne_vv, cmp_ne_fv, cmp_ne_vf, cmp_ne_ff, cmp_ne_fb, cmp_ne_bv, cmp_ne_vb, cmp_ne_bf, cmp_ne_bb, cmp_lt, cmp_le, cmp_gt, cmp_ge, cmp_is_non, cmp_isn_non, cmp_is_bl, cmp_isn_bl, isNon_non, isNon_int, isNon_str, isNon_lst, isNon_tup, isNon_frl, isNon_obj, isNon_bl, ix_tup, ix_v, ix_f, ix_b, tg_nm, tg_t2, tg_t3, asg_nm, asg_t2, asg_t3, nm_val, nm_fresh, nm_stt, sl_val, sl_brw, sl_stt, ty_int, ty_tt, ty_tv, ty_lv, ty_tf, ty_lf, ty_tb, ty_lb, ty_lt, slc_tup, slc_v, slc_f, slc_b, slc_str, ti, li, p2, it_sq, len_sq, rng_1, rng_2, it_sqR, len_sqR, rd_sqR, as_sqR]
  by_cases q : 1 ≤ n
  · simp [q] at hP ⊢; exact hP
  · simp [q] at hP ⊢; exact hP
theorem need_length_keeps (h1 : KnF C "is_length" fsIsLength 0) : Keeps C ir_need_length n_need_length ["length"] fsNeedLength := by
  refine keeps_of fun n P X hd hP => ⟨rfl, ?_⟩
  have hP := hP _ rfl
  simp [ir_need_length, n_need_length, wS, wE, wEs, wT, wC, wO, wIt, wipeD, frzD, Cst.d, asAll, startD, wEq_int, wEq_str, wEq_bl, wBi_len, wBi_abs, wBi_min2, wBi_max2, see_val, see_fresh, see_brw, dat_val, dat_fresh, out_val, out_fresh, out_stt, tru_non, tru_bl, tru_int, tru_lst, tru_tup, tru_fresh, tru_brw, as_vv, as_vf, as_s, as_av, as_af, as_ab, as_bf, as_bb, as_bl, lv_lst, lv_fresh, lv_brw, int_int, len_lst, len_tup, len_frl, len_fresh, len_brw, rd_val, rd_own, rd_bor, rd_stt, it_lst, it_tup, it_frl, it_fresh, it_brw, bin_add, bin_sub, bin_mul, bin_fdiv, bin_mod, bin_pow, bin_str, cat_vv, cat_vf, cat_vb, rep_v, cat_fv, cat_ff, cat_fb, rep_f, cat_bv, cat_bf, cat_bb, rep_b, cmp_eq_vv, cmp_eq_fv, cmp_eq_vf, cmp_eq_ff, cmp_eq_fb, cmp_eq_bv, cmp_eq_vb, cmp_eq_bf, cmp_eq_bb, cmp_ne_vv, cmp_ne_fv, cmp_ne_vf, cmp_ne_ff, cmp_ne_fb, cmp_ne_bv, cmp_ne_vb, cmp_ne_bf, cmp_ne_bb, cmp_lt, cmp_le, cmp_gt, cmp_ge, cmp_is_non, cmp_isn_non, cmp_is_bl, cmp_isn_bl, isNon_non, isNon_int, isNon_str, isNon_lst, isNon_tup, isNon_frl, isNon_obj, isNon_bl, ix_tup, ix_v, ix_f, ix_b, tg_nm, tg_t2, tg_t3, asg_nm, asg_t2, asg_t3, nm_val, nm_fresh, nm_stt, sl_val, sl_brw, sl_stt, ty_int, ty_tt, ty_tv, ty_lv, ty_tf, ty_lf, ty_tb, ty_lb, ty_lt, slc_tup, slc_v, slc_f, slc_b, slc_str, ti, li, p2, it_sq, len_sq, rng_1, rng_2, it_sqR, len_sqR, rd_sqR, as_sqR, h1.1]
  refine wcall_of n rfl trivial ?_
  rintro r rfl
  simp [hd, wS, wE, wEs, wT, wC, wO, wIt, wipeD, frzD, Cst.d, asAll, startD, wEq_int, wEq_str, wEq_bl, wBi_len, wBi_abs, wBi_min2, wBi_max2, see_val, see_fresh, see_brw, dat_val, dat_fresh, out_val, out_fresh, out_stt, tru_non, tru_bl, tru_int, tru_lst, tru_tup, tru_fresh, tru_brw, as_vv, as_vf, as_s, as_av, as_af, as_ab, as_bf, as_bb, as_bl, lv_lst, lv_fresh, lv_brw, int_int, len_lst, len_tup, len_frl, len_fresh, len_brw, rd_val, rd_own, rd_bor, rd_stt, it_lst, it_tup, it_frl, it_fresh, it_brw, bin_add, bin_sub, bin_mul, bin_fdiv, bin_mod, bin_pow, bin_str, cat_vv, cat_vf, cat_vb, rep_v, cat_fv, cat_ff, cat_fb, rep_f, cat_bv, cat_bf, cat_bb, rep_b, cmp_eq_vv, cmp_eq_fv, cmp_eq_vf, cmp_eq_ff, cmp_eq_fb, cmp_eq_bv, cmp_eq_vb, cmp_eq_bf, cmp_eq_bb, cmp_ne_vv, cmp_ne_fv, cmp_ne_vf, cmp_ne_ff, cmp_ne_fb, cmp_ne_bv, cmp_ne_vb, cmp_ne_bf, cmp_ne_bb, cmp_lt, cmp_le, cmp_gt, cmp_ge, cmp_is_non, cmp_isn_non, cmp_is_bl, cmp_isn_bl, isNon_non, isNon_int, isNon_str, isNon_lst, isNon_tup, isNon_frl, isNon_obj, isNon_bl, ix_tup, ix_v, ix_f, ix_b, tg_nm, tg_t2, tg_t3, asg_nm, asg_t2, asg_t3, nm_val, nm_fresh, nm_stt, sl_val, sl_brw, sl_stt, ty_int, ty_tt, ty_tv, ty_lv, ty_tf, ty_lf, ty_tb, ty_lb, ty_lt, slc_tup, slc_v, slc_f, slc_b, slc_str, ti, li, p2, it_sq, len_sq, rng_1, rng_2, it_sqR, len_sqR, rd_sqR, as_sqR]
  exact hP
theorem need_numbers_keeps (h1 : KnF C "is_number" fsIsNumber 0) : Keeps C ir_need_numbers n_need_numbers ["numbers"] fsNeedNumbers := by
  refine keeps_of fun xs P X hd hP => ⟨rfl, ?_⟩
  have hP := hP _ rfl
  simp [ir_need_numbers, n_need_numbers, wS, wE, wEs, wT, wC, wO, wIt, wipeD, frzD, Cst.d, asAll, startD, wEq_int, wEq_str, wEq_bl, wBi_len, wBi_abs, wBi_min2, wBi_max2, see_val, see_fresh, see_brw, dat_val, dat_fresh, out_val, out_fresh, out_stt, tru_non, tru_bl, tru_int, tru_lst, tru_tup, tru_fresh, tru_brw, as_vv, as_vf, as_s, as_av, as_af, as_ab, as_bf, as_bb, as_bl, lv_lst, lv_fresh, lv_brw, int_int, len_lst, len_tup, len_frl, len_fresh, len_brw, rd_val, rd_own, rd_bor, rd_stt, it_lst, it_tup, it_frl, it_fresh, it_brw, bin_add, bin_sub, bin_mul, bin_fdiv, bin_mod, bin_pow, bin_str, cat_vv, cat_vf, cat_vb, rep_v, cat_fv, cat_ff, cat_fb, rep_f, cat_bv, cat_bf, cat_bb, rep_b, cmp_eq_vv, cmp_eq_fv, cmp_eq_vf, cmp_eq_ff, cmp_eq_fb, cmp_eq_bv, cmp_eq_vb, cmp_eq_bf, cmp_eq_bb, cmp_ne_vv, cmp_ne_fv, cmp_ne_vf, cmp_ne_ff, cmp_ne_fb, cmp_ne_bv, cmp_ne_vb, cmp_ne_bf, cmp_ne_bb, cmp_lt, cmp_le, cmp_gt, cmp_ge, cmp_is_non, cmp_isn_non, cmp_is_bl, cmp_isn_bl, isNon_non, isNon_int, isNon_str, isNon_lst, isNon_tup, isNon_frl, isNon_obj, isNon_bl, ix_tup, ix_v, ix_f, ix_b, tg_nm, tg_t2, tg_t3, asg_nm, asg_t2, asg_t3, nm_val, nm_fresh, nm_stt, sl_val, sl_brw, sl_stt, ty_int, ty_tt, ty_tv, ty_lv, ty_tf, ty_lf, ty_tb, ty_lb, ty_lt, slc_tup, slc_v, slc_f, slc_b, slc_str, ti, li, p2, it_sq, len_sq, rng_1, rng_2, it_sqR, len_sqR, rd_sqR, as_sqR, h1.1, costE, h1.2]
  refine ⟨size_big (by omega), ?_⟩
  refine walk_map (g := D.int) (f := fun _ => .bl true) (fun y hy acc k hk => ?_) ?_
  · refine wcall_of (D.int y) rfl rfl ?_
    rintro r rfl
    simpa [D.isInt, wS, wE, wEs, wT, wC, wO, wIt, wipeD, frzD, Cst.d, asAll, startD, wEq_int, wEq_str, wEq_bl, wBi_len, wBi_abs, wBi_min2, wBi_max2, see_val, see_fresh, see_brw, dat_val, dat_fresh, out_val, out_fresh, out_stt, tru_non, tru_bl, tru_int, tru_lst, tru_tup, tru_fresh, tru_brw, as_vv, as_vf, as_s, as_av, as_af, as_ab, as_bf, as_bb, as_bl, lv_lst, lv_fresh, lv_brw, int_int, len_lst, len_tup, len_frl, len_fresh, len_brw, rd_val, rd_own, rd_bor, rd_stt, it_lst, it_tup, it_frl, it_fresh, it_brw, bin_add, bin_sub, bin_mul, bin_fdiv, bin_mod, bin_pow, bin_str, cat_vv, cat_vf, cat_vb, rep_v, cat_fv, cat_ff, cat_fb, rep_f, cat_bv, cat_bf, cat_bb, rep_b, cmp_eq_vv, cmp_eq_fv, cmp_eq_vf, cmp_eq_ff, cmp_eq_fb, cmp_eq_bv, cmp_eq_vb, cmp_eq_bf, cmp_eq_bb, cmp_ne_vv, cmp_ne_fv, cmp_ne_vf, cmp_ne_ff, cmp_ne_fb, cmp_ne_bv, cmp_ne_vb, cmp_ne_bf, cmp_ne_bb, cmp_lt, cmp_le, cmp_gt, cmp_ge, cmp_is_non, cmp_isn_non, cmp_is_bl, cmp_isn_bl, isNon_non, isNon_int, isNon_str, isNon_lst, isNon_tup, isNon_frl, isNon_obj, isNon_bl, ix_tup, ix_v, ix_f, ix_b, tg_nm, tg_t2, tg_t3, asg_nm, asg_t2, asg_t3, nm_val, nm_fresh, nm_stt, sl_val, sl_brw, sl_stt, ty_int, ty_tt, ty_tv, ty_lv, ty_tf, ty_lf, ty_tb, ty_lb, ty_lt, slc_tup, slc_v, slc_f, slc_b, slc_str, ti, li, p2, it_sq, len_sq, rng_1, rng_2, it_sqR, len_sqR, rd_sqR, as_sqR] using hk
  · refine wall_of (ns := xs.map fun _ => true) (by simp [R.lv]) ?_
    have e : (xs.map fun _ => true).all id = true := by rw [List.all_eq_true]; intro b hb; obtain ⟨_, _, rfl⟩ := List.mem_map.mp hb; rfl
    rw [e]
    exact hP
theorem fmod_e {a : Int} {b : Int} (h : 0 ≤ b) : a.fmod b = a % b := Int.fmod_eq_emod_of_nonneg a h
theorem fdiv_e {a : Int} {b : Int} (h : 0 ≤ b) : a.fdiv b = a / b := Int.fdiv_eq_ediv_of_nonneg a h
theorem atI_map {xs : List Int} {i : Int} (h1 : 0 ≤ i) (h2 : i < xs.length) : atI (xs.map D.int) i = some (.int (xs.getD i.toNat 0)) := by
  unfold atI ixN
  have e : (xs.map D.int).length = xs.length := List.length_map _
  have h3 : i.toNat < xs.length := by omega
  simp [h1, h2, e, List.getElem?_eq_getElem h3, List.getD]
theorem led_on_keeps : Keeps C ir_led_on n_led_on ["ends", "number"] fsLedOn := by
  refine keeps_of fun a P X hd hP => ⟨rfl, ?_⟩
  have hP := hP _ rfl
  obtain ⟨es, n⟩ := a
  obtain ⟨h1, h2⟩ := hd
  simp only at h1 h2 hP
  have hl : (0 : Int) < es.length := by omega
  simp [ir_led_on, n_led_on, wS, wE, wEs, wT, wC, wO, wIt, wipeD, frzD, Cst.d, asAll, startD, wEq_int, wEq_str, wEq_bl, wBi_len, wBi_abs, wBi_min2, wBi_max2, see_val, see_fresh, see_brw, dat_val, dat_fresh, out_val, out_fresh, out_stt, tru_non, tru_bl, tru_int, tru_lst, tru_tup, tru_fresh, tru_brw, as_vv, as_vf, as_s, as_av, as_af, as_ab, as_bf, as_bb, as_bl, lv_lst, lv_fresh, lv_brw, int_int, len_lst, len_tup, len_frl, len_fresh, len_brw, rd_val, rd_own, rd_bor, rd_stt, it_lst, it_tup, it_frl, it_fresh, it_brw, bin_add, bin_sub, bin_mul, bin_fdiv, bin_mod, bin_pow, bin_str, cat_vv, cat_vf, cat_vb, rep_v, cat_fv, cat_ff, cat_fb, rep_f, cat_bv, cat_bf, cat_bb, rep_b, cmp_eq_vv, cmp_eq_fv, cmp_eq_vf, cmp_eq_ff, cmp_eq_fb, cmp_eq_bv, cmp_eq_vb, cmp_eq_bf, cmp_eq_bb, cmp_ne_vv, cmp_ne_fv, cmp_ne_vf, cmp_ne_ff, cmp_ne_fb, cmp_ne_bv, cmp_ne_vb, cmp_ne_bf, cmp_ne_bb, cmp_lt, cmp_le, cmp_gt, cmp_ge, cmp_is_non, cmp_isn_non, cmp_is_bl, cmp_isn_bl, isNon_non, isNon_int, isNon_str, isNon_lst, isNon_tup, isNon_frl, isNon_obj, isNon_bl, ix_tup, ix_v, ix_f, ix_b, tg_nm, tg_t2, tg_t3, asg_nm, asg_t2, asg_t3, nm_val, nm_fresh, nm_stt, sl_val, sl_brw, sl_stt, ty_int, ty_tt, ty_tv, ty_lv, ty_tf, ty_lf, ty_tb, ty_lb, ty_lt, slc_tup, slc_v, slc_f, slc_b, slc_str, ti, li, p2, it_sq, len_sq, rng_1, rng_2, it_sqR, len_sqR, rd_sqR, as_sqR, fmod_e (Int.le_of_lt hl), fdiv_e (Int.le_of_lt hl)]
  refine ⟨by rintro rfl; simp at h1, ?_⟩
  rw [atI_map (Int.emod_nonneg _ (by omega)) (Int.emod_lt_of_pos _ hl)]
  simp [wS, wE, wEs, wT, wC, wO, wIt, wipeD, frzD, Cst.d, asAll, startD, wEq_int, wEq_str, wEq_bl, wBi_len, wBi_abs, wBi_min2, wBi_max2, see_val, see_fresh, see_brw, dat_val, dat_fresh, out_val, out_fresh, out_stt, tru_non, tru_bl, tru_int, tru_lst, tru_tup, tru_fresh, tru_brw, as_vv, as_vf, as_s, as_av, as_af, as_ab, as_bf, as_bb, as_bl, lv_lst, lv_fresh, lv_brw, int_int, len_lst, len_tup, len_frl, len_fresh, len_brw, rd_val, rd_own, rd_bor, rd_stt, it_lst, it_tup, it_frl, it_fresh, it_brw, bin_add, bin_sub, bin_mul, bin_fdiv, bin_mod, bin_pow, bin_str, cat_vv, cat_vf, cat_vb, rep_v, cat_fv, cat_ff, cat_fb, rep_f, cat_bv, cat_bf, cat_bb, rep_b, cmp_eq_vv, cmp_eq_fv, cmp_eq_vf, cmp_eq_ff, cmp_eq_fb, cmp_eq_bv, cmp_eq_vb, cmp_eq_bf, cmp_eq_bb, cmp_ne_vv, cmp_ne_fv, cmp_ne_vf, cmp_ne_ff, cmp_ne_fb, cmp_ne_bv, cmp_ne_vb, cmp_ne_bf, cmp_ne_bb, cmp_lt, cmp_le, cmp_gt, cmp_ge, cmp_is_non, cmp_isn_non, cmp_is_bl, cmp_isn_bl, isNon_non, isNon_int, isNon_str, isNon_lst, isNon_tup, isNon_frl, isNon_obj, isNon_bl, ix_tup, ix_v, ix_f, ix_b, tg_nm, tg_t2, tg_t3, asg_nm, asg_t2, asg_t3, nm_val, nm_fresh, nm_stt, sl_val, sl_brw, sl_stt, ty_int, ty_tt, ty_tv, ty_lv, ty_tf, ty_lf, ty_tb, ty_lb, ty_lt, slc_tup, slc_v, slc_f, slc_b, slc_str, ti, li, p2, it_sq, len_sq, rng_1, rng_2, it_sqR, len_sqR, rd_sqR, as_sqR]
  exact ⟨⟨by omega, by omega⟩, .inl ⟨by omega, by omega⟩, hP⟩
theorem led_back_keeps : Keeps C ir_led_back n_led_back ["ends", "number"] fsLedBack := by
  refine keeps_of fun a P X hd hP => ⟨rfl, ?_⟩
  have hP := hP _ rfl
  obtain ⟨es, n⟩ := a
  obtain ⟨h1, h2⟩ := hd
  simp only at h1 h2 hP
  have hl : (0 : Int) < es.length := by omega
  simp [ir_led_back, n_led_back, wS, wE, wEs, wT, wC, wO, wIt, wipeD, frzD, Cst.d, asAll, startD, wEq_int, wEq_str, wEq_bl, wBi_len, wBi_abs, wBi_min2, wBi_max2, see_val, see_fresh, see_brw, dat_val, dat_fresh, out_val, out_fresh, out_stt, tru_non, tru_bl, tru_int, tru_lst, tru_tup, tru_fresh, tru_brw, as_vv, as_vf, as_s, as_av, as_af, as_ab, as_bf, as_bb, as_bl, lv_lst, lv_fresh, lv_brw, int_int, len_lst, len_tup, len_frl, len_fresh, len_brw, rd_val, rd_own, rd_bor, rd_stt, it_lst, it_tup, it_frl, it_fresh, it_brw, bin_add, bin_sub, bin_mul, bin_fdiv, bin_mod, bin_pow, bin_str, cat_vv, cat_vf, cat_vb, rep_v, cat_fv, cat_ff, cat_fb, rep_f, cat_bv, cat_bf, cat_bb, rep_b, cmp_eq_vv, cmp_eq_fv, cmp_eq_vf, cmp_eq_ff, cmp_eq_fb, cmp_eq_bv, cmp_eq_vb, cmp_eq_bf, cmp_eq_bb, cmp_ne_vv, cmp_ne_fv, cmp_ne_vf, cmp_ne_ff, cmp_ne_fb, cmp_ne_bv, cmp_ne_vb, cmp_ne_bf, cmp_ne_bb, cmp_lt, cmp_le, cmp_gt, cmp_ge, cmp_is_non, cmp_isn_non, cmp_is_bl, cmp_isn_bl, isNon_non, isNon_int, isNon_str, isNon_lst, isNon_tup, isNon_frl, isNon_obj, isNon_bl, ix_tup, ix_v, ix_f, ix_b, tg_nm, tg_t2, tg_t3, asg_nm, asg_t2, asg_t3, nm_val, nm_fresh, nm_stt, sl_val, sl_brw, sl_stt, ty_int, ty_tt, ty_tv, ty_lv, ty_tf, ty_lf, ty_tb, ty_lb, ty_lt, slc_tup, slc_v, slc_f, slc_b, slc_str, ti, li, p2, it_sq, len_sq, rng_1, rng_2, it_sqR, len_sqR, rd_sqR, as_sqR, costE, enumD_ints, en_length]
  refine ⟨size_big (by omega), ?_⟩
  refine walk_map (g := p2) (f := fun p => .int (p.1 + es.length * ((n - p.2) / es.length))) (fun y hy acc k hk => ?_) ?_
  · simp [wS, wE, wEs, wT, wC, wO, wIt, wipeD, frzD, Cst.d, asAll, startD, wEq_int, wEq_str, wEq_bl, wBi_len, wBi_abs, wBi_min2, wBi_max2, see_val, see_fresh, see_brw, dat_val, dat_fresh, out_val, out_fresh, out_stt, tru_non, tru_bl, tru_int, tru_lst, tru_tup, tru_fresh, tru_brw, as_vv, as_vf, as_s, as_av, as_af, as_ab, as_bf, as_bb, as_bl, lv_lst, lv_fresh, lv_brw, int_int, len_lst, len_tup, len_frl, len_fresh, len_brw, rd_val, rd_own, rd_bor, rd_stt, it_lst, it_tup, it_frl, it_fresh, it_brw, bin_add, bin_sub, bin_mul, bin_fdiv, bin_mod, bin_pow, bin_str, cat_vv, cat_vf, cat_vb, rep_v, cat_fv, cat_ff, cat_fb, rep_f, cat_bv, cat_bf, cat_bb, rep_b, cmp_eq_vv, cmp_eq_fv, cmp_eq_vf, cmp_eq_ff, cmp_eq_fb, cmp_eq_bv, cmp_eq_vb, cmp_eq_bf, cmp_eq_bb, cmp_ne_vv, cmp_ne_fv, cmp_ne_vf, cmp_ne_ff, cmp_ne_fb, cmp_ne_bv, cmp_ne_vb, cmp_ne_bf, cmp_ne_bb, cmp_lt, cmp_le, cmp_gt, cmp_ge, cmp_is_non, cmp_isn_non, cmp_is_bl, cmp_isn_bl, isNon_non, isNon_int, isNon_str, isNon_lst, isNon_tup, isNon_frl, isNon_obj, isNon_bl, ix_tup, ix_v, ix_f, ix_b, tg_nm, tg_t2, tg_t3, asg_nm, asg_t2, asg_t3, nm_val, nm_fresh, nm_stt, sl_val, sl_brw, sl_stt, ty_int, ty_tt, ty_tv, ty_lv, ty_tf, ty_lf, ty_tb, ty_lb, ty_lt, slc_tup, slc_v, slc_f, slc_b, slc_str, ti, li, p2, it_sq, len_sq, rng_1, rng_2, it_sqR, len_sqR, rd_sqR, as_sqR, fdiv_e (Int.le_of_lt hl)]
    exact ⟨⟨by omega, by omega⟩, .inl ⟨by omega, by omega⟩, hk⟩
  · simp only [List.nil_append]
    refine wmax_of (ns := (en es).map fun (p : Int × Int) => p.1 + es.length * ((n - p.2) / es.length)) (by simp [R.sv, R.lv, Function.comp_def]) ?_ ⟨rfl, hP⟩
    have : (en es).length ≠ 0 := by rw [en_length]; omega
    intro z
    rw [List.map_eq_nil_iff] at z
    rw [z] at this
    exact this rfl
theorem ends_of_keeps : Keeps C ir_ends_of n_ends_of ["length", "rides"] fsEndsOf := by
  refine keeps_of fun a P X hd hP => ⟨rfl, ?_⟩
  have hP := hP _ rfl
  obtain ⟨l, b, rs⟩ := a
  obtain ⟨h1, h2, h3, h4⟩ := hd
  simp only at h1 h2 h3 h4 hP
  have hl : (0 : Int) < l := by omega
  simp [ir_ends_of, n_ends_of, wS, wE, wEs, wT, wC, wO, wIt, wipeD, frzD, Cst.d, asAll, startD, wEq_int, wEq_str, wEq_bl, wBi_len, wBi_abs, wBi_min2, wBi_max2, see_val, see_fresh, see_brw, dat_val, dat_fresh, out_val, out_fresh, out_stt, tru_non, tru_bl, tru_int, tru_lst, tru_tup, tru_fresh, tru_brw, as_vv, as_vf, as_s, as_av, as_af, as_ab, as_bf, as_bb, as_bl, lv_lst, lv_fresh, lv_brw, int_int, len_lst, len_tup, len_frl, len_fresh, len_brw, rd_val, rd_own, rd_bor, rd_stt, it_lst, it_tup, it_frl, it_fresh, it_brw, bin_add, bin_sub, bin_mul, bin_fdiv, bin_mod, bin_pow, bin_str, cat_vv, cat_vf, cat_vb, rep_v, cat_fv, cat_ff, cat_fb, rep_f, cat_bv, cat_bf, cat_bb, rep_b, cmp_eq_vv, cmp_eq_fv, cmp_eq_vf, cmp_eq_ff, cmp_eq_fb, cmp_eq_bv, cmp_eq_vb, cmp_eq_bf, cmp_eq_bb, cmp_ne_vv, cmp_ne_fv, cmp_ne_vf, cmp_ne_ff, cmp_ne_fb, cmp_ne_bv, cmp_ne_vb, cmp_ne_bf, cmp_ne_bb, cmp_lt, cmp_le, cmp_gt, cmp_ge, cmp_is_non, cmp_isn_non, cmp_is_bl, cmp_isn_bl, isNon_non, isNon_int, isNon_str, isNon_lst, isNon_tup, isNon_frl, isNon_obj, isNon_bl, ix_tup, ix_v, ix_f, ix_b, tg_nm, tg_t2, tg_t3, asg_nm, asg_t2, asg_t3, nm_val, nm_fresh, nm_stt, sl_val, sl_brw, sl_stt, ty_int, ty_tt, ty_tv, ty_lv, ty_tf, ty_lf, ty_tb, ty_lb, ty_lt, slc_tup, slc_v, slc_f, slc_b, slc_str, ti, li, p2, it_sq, len_sq, rng_1, rng_2, it_sqR, len_sqR, rd_sqR, as_sqR, costE, costS]
  refine ⟨by omega, ?_⟩
  refine forD_of (fun xs δ => ∃ (ys zs : List Int) (s1 s2 s3 : Sl), xs = ys.map D.int ∧ zs ++ ys = rg l ∧ δ = [.val (.int l), R.sl (sqR b (rs.map p2)), .own ((zs.map fun n => mn (rs.map fun p => p.2 - l * ((p.1 - n) / l))).map D.int), s1, s2, s3]) ?_ ?_ ⟨rg l, [], _, _, _, rfl, rfl, rfl⟩
  · rintro δ ⟨ys, zs, s1, s2, s3, e1, e2, rfl⟩
    have : ys = [] := by simpa using e1.symm
    subst this
    simp only [List.append_nil] at e2
    subst e2
    simp [wS, wE, wEs, wT, wC, wO, wIt, wipeD, frzD, Cst.d, asAll, startD, wEq_int, wEq_str, wEq_bl, wBi_len, wBi_abs, wBi_min2, wBi_max2, see_val, see_fresh, see_brw, dat_val, dat_fresh, out_val, out_fresh, out_stt, tru_non, tru_bl, tru_int, tru_lst, tru_tup, tru_fresh, tru_brw, as_vv, as_vf, as_s, as_av, as_af, as_ab, as_bf, as_bb, as_bl, lv_lst, lv_fresh, lv_brw, int_int, len_lst, len_tup, len_frl, len_fresh, len_brw, rd_val, rd_own, rd_bor, rd_stt, it_lst, it_tup, it_frl, it_fresh, it_brw, bin_add, bin_sub, bin_mul, bin_fdiv, bin_mod, bin_pow, bin_str, cat_vv, cat_vf, cat_vb, rep_v, cat_fv, cat_ff, cat_fb, rep_f, cat_bv, cat_bf, cat_bb, rep_b, cmp_eq_vv, cmp_eq_fv, cmp_eq_vf, cmp_eq_ff, cmp_eq_fb, cmp_eq_bv, cmp_eq_vb, cmp_eq_bf, cmp_eq_bb, cmp_ne_vv, cmp_ne_fv, cmp_ne_vf, cmp_ne_ff, cmp_ne_fb, cmp_ne_bv, cmp_ne_vb, cmp_ne_bf, cmp_ne_bb, cmp_lt, cmp_le, cmp_gt, cmp_ge, cmp_is_non, cmp_isn_non, cmp_is_bl, cmp_isn_bl, isNon_non, isNon_int, isNon_str, isNon_lst, isNon_tup, isNon_frl, isNon_obj, isNon_bl, ix_tup, ix_v, ix_f, ix_b, tg_nm, tg_t2, tg_t3, asg_nm, asg_t2, asg_t3, nm_val, nm_fresh, nm_stt, sl_val, sl_brw, sl_stt, ty_int, ty_tt, ty_tv, ty_lv, ty_tf, ty_lf, ty_tb, ty_lb, ty_lt, slc_tup, slc_v, slc_f, slc_b, slc_str, ti, li, p2, it_sq, len_sq, rng_1, rng_2, it_sqR, len_sqR, rd_sqR, as_sqR]
    simpa [endsOf, ti] using hP
  · rintro x xs δ k ⟨ys, zs, s1, s2, s3, e1, e2, rfl⟩ hk
    cases ys with
    | nil => cases e1
    | cons y ys =>
      simp only [List.map_cons, List.cons.injEq] at e1
      obtain ⟨rfl, e1⟩ := e1
      have hz : zs.length < l := by
        have := congrArg List.length e2
        rw [rg_length] at this
        simp at this
        omega
      simp [wS, wE, wEs, wT, wC, wO, wIt, wipeD, frzD, Cst.d, asAll, startD, wEq_int, wEq_str, wEq_bl, wBi_len, wBi_abs, wBi_min2, wBi_max2, see_val, see_fresh, see_brw, dat_val, dat_fresh, out_val, out_fresh, out_stt, tru_non, tru_bl, tru_int, tru_lst, tru_tup, tru_fresh, tru_brw, as_vv, as_vf, as_s, as_av, as_af, as_ab, as_bf, as_bb, as_bl, lv_lst, lv_fresh, lv_brw, int_int, len_lst, len_tup, len_frl, len_fresh, len_brw, rd_val, rd_own, rd_bor, rd_stt, it_lst, it_tup, it_frl, it_fresh, it_brw, bin_add, bin_sub, bin_mul, bin_fdiv, bin_mod, bin_pow, bin_str, cat_vv, cat_vf, cat_vb, rep_v, cat_fv, cat_ff, cat_fb, rep_f, cat_bv, cat_bf, cat_bb, rep_b, cmp_eq_vv, cmp_eq_fv, cmp_eq_vf, cmp_eq_ff, cmp_eq_fb, cmp_eq_bv, cmp_eq_vb, cmp_eq_bf, cmp_eq_bb, cmp_ne_vv, cmp_ne_fv, cmp_ne_vf, cmp_ne_ff, cmp_ne_fb, cmp_ne_bv, cmp_ne_vb, cmp_ne_bf, cmp_ne_bb, cmp_lt, cmp_le, cmp_gt, cmp_ge, cmp_is_non, cmp_isn_non, cmp_is_bl, cmp_isn_bl, isNon_non, isNon_int, isNon_str, isNon_lst, isNon_tup, isNon_frl, isNon_obj, isNon_bl, ix_tup, ix_v, ix_f, ix_b, tg_nm, tg_t2, tg_t3, asg_nm, asg_t2, asg_t3, nm_val, nm_fresh, nm_stt, sl_val, sl_brw, sl_stt, ty_int, ty_tt, ty_tv, ty_lv, ty_tf, ty_lf, ty_tb, ty_lb, ty_lt, slc_tup, slc_v, slc_f, slc_b, slc_str, ti, li, p2, it_sq, len_sq, rng_1, rng_2, it_sqR, len_sqR, rd_sqR, as_sqR, costE]
      refine ⟨size_big (by omega), ?_⟩
      refine walk_map (g := p2) (f := fun p => .int (p.2 - l * ((p.1 - y) / l))) (fun p hp acc k' hk' => ?_) ?_
      · simp [wS, wE, wEs, wT, wC, wO, wIt, wipeD, frzD, Cst.d, asAll, startD, wEq_int, wEq_str, wEq_bl, wBi_len, wBi_abs, wBi_min2, wBi_max2, see_val, see_fresh, see_brw, dat_val, dat_fresh, out_val, out_fresh, out_stt, tru_non, tru_bl, tru_int, tru_lst, tru_tup, tru_fresh, tru_brw, as_vv, as_vf, as_s, as_av, as_af, as_ab, as_bf, as_bb, as_bl, lv_lst, lv_fresh, lv_brw, int_int, len_lst, len_tup, len_frl, len_fresh, len_brw, rd_val, rd_own, rd_bor, rd_stt, it_lst, it_tup, it_frl, it_fresh, it_brw, bin_add, bin_sub, bin_mul, bin_fdiv, bin_mod, bin_pow, bin_str, cat_vv, cat_vf, cat_vb, rep_v, cat_fv, cat_ff, cat_fb, rep_f, cat_bv, cat_bf, cat_bb, rep_b, cmp_eq_vv, cmp_eq_fv, cmp_eq_vf, cmp_eq_ff, cmp_eq_fb, cmp_eq_bv, cmp_eq_vb, cmp_eq_bf, cmp_eq_bb, cmp_ne_vv, cmp_ne_fv, cmp_ne_vf, cmp_ne_ff, cmp_ne_fb, cmp_ne_bv, cmp_ne_vb, cmp_ne_bf, cmp_ne_bb, cmp_lt, cmp_le, cmp_gt, cmp_ge, cmp_is_non, cmp_isn_non, cmp_is_bl, cmp_isn_bl, isNon_non, isNon_int, isNon_str, isNon_lst, isNon_tup, isNon_frl, isNon_obj, isNon_bl, ix_tup, ix_v, ix_f, ix_b, tg_nm, tg_t2, tg_t3, asg_nm, asg_t2, asg_t3, nm_val, nm_fresh, nm_stt, sl_val, sl_brw, sl_stt, ty_int, ty_tt, ty_tv, ty_lv, ty_tf, ty_lf, ty_tb, ty_lb, ty_lt, slc_tup, slc_v, slc_f, slc_b, slc_str, ti, li, p2, it_sq, len_sq, rng_1, rng_2, it_sqR, len_sqR, rd_sqR, as_sqR, fdiv_e (Int.le_of_lt hl)]
        exact ⟨⟨by omega, by omega⟩, .inl ⟨by omega, by omega⟩, hk'⟩
      · refine wmin_of (ns := rs.map fun (p : Int × Int) => p.2 - l * ((p.1 - y) / l)) (by simp [R.sv, R.lv, Function.comp_def]) (by simpa using h3) ?_
        simp [wS, wE, wEs, wT, wC, wO, wIt, wipeD, frzD, Cst.d, asAll, startD, wEq_int, wEq_str, wEq_bl, wBi_len, wBi_abs, wBi_min2, wBi_max2, see_val, see_fresh, see_brw, dat_val, dat_fresh, out_val, out_fresh, out_stt, tru_non, tru_bl, tru_int, tru_lst, tru_tup, tru_fresh, tru_brw, as_vv, as_vf, as_s, as_av, as_af, as_ab, as_bf, as_bb, as_bl, lv_lst, lv_fresh, lv_brw, int_int, len_lst, len_tup, len_frl, len_fresh, len_brw, rd_val, rd_own, rd_bor, rd_stt, it_lst, it_tup, it_frl, it_fresh, it_brw, bin_add, bin_sub, bin_mul, bin_fdiv, bin_mod, bin_pow, bin_str, cat_vv, cat_vf, cat_vb, rep_v, cat_fv, cat_ff, cat_fb, rep_f, cat_bv, cat_bf, cat_bb, rep_b, cmp_eq_vv, cmp_eq_fv, cmp_eq_vf, cmp_eq_ff, cmp_eq_fb, cmp_eq_bv, cmp_eq_vb, cmp_eq_bf, cmp_eq_bb, cmp_ne_vv, cmp_ne_fv, cmp_ne_vf, cmp_ne_ff, cmp_ne_fb, cmp_ne_bv, cmp_ne_vb, cmp_ne_bf, cmp_ne_bb, cmp_lt, cmp_le, cmp_gt, cmp_ge, cmp_is_non, cmp_isn_non, cmp_is_bl, cmp_isn_bl, isNon_non, isNon_int, isNon_str, isNon_lst, isNon_tup, isNon_frl, isNon_obj, isNon_bl, ix_tup, ix_v, ix_f, ix_b, tg_nm, tg_t2, tg_t3, asg_nm, asg_t2, asg_t3, nm_val, nm_fresh, nm_stt, sl_val, sl_brw, sl_stt, ty_int, ty_tt, ty_tv, ty_lv, ty_tf, ty_lf, ty_tb, ty_lb, ty_lt, slc_tup, slc_v, slc_f, slc_b, slc_str, ti, li, p2, it_sq, len_sq, rng_1, rng_2, it_sqR, len_sqR, rd_sqR, as_sqR]
        refine ⟨Nat.lt_trans hz (size_big (by omega)), hk _ ⟨ys, zs ++ [y], .val (.int y), s2, s3, e1, by simpa using e2, ?_⟩⟩
        simp [Function.comp_def]
theorem daily_by_keeps (h1 : KnI C "Daily" fsDaily 0) : Keeps C ir_daily_by n_daily_by ["ends"] fsDailyBy := by
  refine keeps_of fun a P X hd hP => ⟨rfl, ?_⟩
  have hP := hP _ rfl
  obtain ⟨b, es⟩ := a
  obtain ⟨k1, k2, k3⟩ := hd
  simp only at k1 k2 k3
  have hP : P (R.val (dailyD (endsOf es.length (en es)))) := hP
  cases b
  all_goals
    simp [ir_daily_by, n_daily_by, wS, wE, wEs, wT, wC, wO, wIt, wipeD, frzD, Cst.d, asAll, startD, wEq_int, wEq_str, wEq_bl, wBi_len, wBi_abs, wBi_min2, wBi_max2, see_val, see_fresh, see_brw, dat_val, dat_fresh, out_val, out_fresh, out_stt, tru_non, tru_bl, tru_int, tru_lst, tru_tup, tru_fresh, tru_brw, as_vv, as_vf, as_s, as_av, as_af, as_ab, as_bf, as_bb, as_bl, lv_lst, lv_fresh, lv_brw, int_int, len_lst, len_tup, len_frl, len_fresh, len_brw, rd_val, rd_own, rd_bor, rd_stt, it_lst, it_tup, it_frl, it_fresh, it_brw, bin_add, bin_sub, bin_mul, bin_fdiv, bin_mod, bin_pow, bin_str, cat_vv, cat_vf, cat_vb, rep_v, cat_fv, cat_ff, cat_fb, rep_f, cat_bv, cat_bf, cat_bb, rep_b, cmp_eq_vv, cmp_eq_fv, cmp_eq_vf, cmp_eq_ff, cmp_eq_fb, cmp_eq_bv, cmp_eq_vb, cmp_eq_bf, cmp_eq_bb, cmp_ne_vv, cmp_ne_fv, cmp_ne_vf, cmp_ne_ff, cmp_ne_fb, cmp_ne_bv, cmp_ne_vb, cmp_ne_bf, cmp_ne_bb, cmp_lt, cmp_le, cmp_gt, cmp_ge, cmp_is_non, cmp_isn_non, cmp_is_bl, cmp_isn_bl, isNon_non, isNon_int, isNon_str, isNon_lst, isNon_tup, isNon_frl, isNon_obj, isNon_bl, ix_tup, ix_v, ix_f, ix_b, tg_nm, tg_t2, tg_t3, asg_nm, asg_t2, asg_t3, nm_val, nm_fresh, nm_stt, sl_val, sl_brw, sl_stt, ty_int, ty_tt, ty_tv, ty_lv, ty_tf, ty_lf, ty_tb, ty_lb, ty_lt, slc_tup, slc_v, slc_f, slc_b, slc_str, ti, li, p2, it_sq, len_sq, rng_1, rng_2, it_sqR, len_sqR, rd_sqR, as_sqR, sq, h1.1, costE, enumD_ints, en_length]
    refine ⟨size_big (by omega), ?_⟩
    refine walk_map (g := p2) (f := p2) (fun p hp acc k hk => ?_) ?_
    · simp [wS, wE, wEs, wT, wC, wO, wIt, wipeD, frzD, Cst.d, asAll, startD, wEq_int, wEq_str, wEq_bl, wBi_len, wBi_abs, wBi_min2, wBi_max2, see_val, see_fresh, see_brw, dat_val, dat_fresh, out_val, out_fresh, out_stt, tru_non, tru_bl, tru_int, tru_lst, tru_tup, tru_fresh, tru_brw, as_vv, as_vf, as_s, as_av, as_af, as_ab, as_bf, as_bb, as_bl, lv_lst, lv_fresh, lv_brw, int_int, len_lst, len_tup, len_frl, len_fresh, len_brw, rd_val, rd_own, rd_bor, rd_stt, it_lst, it_tup, it_frl, it_fresh, it_brw, bin_add, bin_sub, bin_mul, bin_fdiv, bin_mod, bin_pow, bin_str, cat_vv, cat_vf, cat_vb, rep_v, cat_fv, cat_ff, cat_fb, rep_f, cat_bv, cat_bf, cat_bb, rep_b, cmp_eq_vv, cmp_eq_fv, cmp_eq_vf, cmp_eq_ff, cmp_eq_fb, cmp_eq_bv, cmp_eq_vb, cmp_eq_bf, cmp_eq_bb, cmp_ne_vv, cmp_ne_fv, cmp_ne_vf, cmp_ne_ff, cmp_ne_fb, cmp_ne_bv, cmp_ne_vb, cmp_ne_bf, cmp_ne_bb, cmp_lt, cmp_le, cmp_gt, cmp_ge, cmp_is_non, cmp_isn_non, cmp_is_bl, cmp_isn_bl, isNon_non, isNon_int, isNon_str, isNon_lst, isNon_tup, isNon_frl, isNon_obj, isNon_bl, ix_tup, ix_v, ix_f, ix_b, tg_nm, tg_t2, tg_t3, asg_nm, asg_t2, asg_t3, nm_val, nm_fresh, nm_stt, sl_val, sl_brw, sl_stt, ty_int, ty_tt, ty_tv, ty_lv, ty_tf, ty_lf, ty_tb, ty_lb, ty_lt, slc_tup, slc_v, slc_f, slc_b, slc_str, ti, li, p2, it_sq, len_sq, rng_1, rng_2, it_sqR, len_sqR, rd_sqR, as_sqR]
      exact ⟨by rw [sizeLine_eq]; omega, hk⟩
    · refine wcall_of (α := Nat × SqK × List (Int × Int)) (es.length, .l, en es) (by simp [wS, wE, wEs, wT, wC, wO, wIt, wipeD, frzD, Cst.d, asAll, startD, wEq_int, wEq_str, wEq_bl, wBi_len, wBi_abs, wBi_min2, wBi_max2, see_val, see_fresh, see_brw, dat_val, dat_fresh, out_val, out_fresh, out_stt, tru_non, tru_bl, tru_int, tru_lst, tru_tup, tru_fresh, tru_brw, as_vv, as_vf, as_s, as_av, as_af, as_ab, as_bf, as_bb, as_bl, lv_lst, lv_fresh, lv_brw, int_int, len_lst, len_tup, len_frl, len_fresh, len_brw, rd_val, rd_own, rd_bor, rd_stt, it_lst, it_tup, it_frl, it_fresh, it_brw, bin_add, bin_sub, bin_mul, bin_fdiv, bin_mod, bin_pow, bin_str, cat_vv, cat_vf, cat_vb, rep_v, cat_fv, cat_ff, cat_fb, rep_f, cat_bv, cat_bf, cat_bb, rep_b, cmp_eq_vv, cmp_eq_fv, cmp_eq_vf, cmp_eq_ff, cmp_eq_fb, cmp_eq_bv, cmp_eq_vb, cmp_eq_bf, cmp_eq_bb, cmp_ne_vv, cmp_ne_fv, cmp_ne_vf, cmp_ne_ff, cmp_ne_fb, cmp_ne_bv, cmp_ne_vb, cmp_ne_bf, cmp_ne_bb, cmp_lt, cmp_le, cmp_gt, cmp_ge, cmp_is_non, cmp_isn_non, cmp_is_bl, cmp_isn_bl, isNon_non, isNon_int, isNon_str, isNon_lst, isNon_tup, isNon_frl, isNon_obj, isNon_bl, ix_tup, ix_v, ix_f, ix_b, tg_nm, tg_t2, tg_t3, asg_nm, asg_t2, asg_t3, nm_val, nm_fresh, nm_stt, sl_val, sl_brw, sl_stt, ty_int, ty_tt, ty_tv, ty_lv, ty_tf, ty_lf, ty_tb, ty_lb, ty_lt, slc_tup, slc_v, slc_f, slc_b, slc_str, ti, li, p2, it_sq, len_sq, rng_1, rng_2, it_sqR, len_sqR, rd_sqR, as_sqR, sqR]) ⟨k1, k2, ?_, ?_, k3⟩ ?_
      · intro z
        have z : en es = [] := z
        have := en_length es
        rw [z] at this
        simp at this
        omega
      · simp [en_length]; omega
      · rintro r rfl
        exact ⟨rfl, rfl, hP⟩
def irDInitB : St := (.seq (.for_ (.t2 (.nm 3) (.nm 4)) (.itEnum (.var 2)) 64 (.seq (.ifs (.or_ (.cmp .eq (.var 3) (.glc "MOST_RIDES")) (.not_ (.tr (.call "is_ride" (.cons (.var 4) .nil))))) (.seq .never .skip) .skip) .skip))
      (.seq (.asgO 0 "own_ends" (.call "ends_of" (.cons (.var 1) (.cons (.var 2) .nil)))) .skip))
theorem daily_init_keeps (hi : IsaOk C) (h1 : KnF C "need_length" fsNeedLength 0) (h2 : KnF C "is_ride" fsIsRide 0) (h3 : KnF C "ends_of" fsEndsOf 0) (h4 : C.gc "MOST_RIDES" = some (.int 60)) (h5 : C.fld "Daily" "own_ends" = true) : KeepsI C ir_Daily___init__ n_Daily___init__ ["self", "length", "rides"] "Daily" fsDaily := by
  rintro as P X ⟨⟨l, b, rs⟩, rfl, hd, hP⟩
  refine ⟨rfl, fun a d => ?_⟩
  have hP' : P (.val (dailyD (endsOf l rs))) := hP _ rfl
  obtain ⟨k1, k2, k3, k4, k5⟩ := hd
  simp only at k1 k2 k3 k4 k5
  have i1 : C.isa (.b "list") (.b "list") = some true := hi.le _ _ _ rfl
  have i2 : C.isa (.b "tuple") (.b "list") = some false := hi.le _ _ _ rfl
  have i3 : C.isa (.b "tuple") (.b "tuple") = some true := hi.le _ _ _ rfl
  have tail : ∀ (W : WD), (∀ δ, δ[0]? = some (.ownO a d "Daily" [("own_ends", ti (endsOf l rs))]) → W.nx δ) → wS C irDInitB [.ownO a d "Daily" [], .val (.int l), R.sl (sqR b (rs.map p2)), .non, .non] W X := by
    intro W hW
    have key : (0 < costS C (.seq (.ifs (.or_ (.cmp .eq (.var 3) (.glc "MOST_RIDES")) (.not_ (.tr (.call "is_ride" (.cons (.var 4) .nil))))) (.seq .never .skip) .skip) .skip) → (enumD (rs.map p2)).length ≤ 64) ∧ forD (fun x δ W' => wTg (.t2 (.nm 3) (.nm 4)) x δ fun δ' => wS C (.seq (.ifs (.or_ (.cmp .eq (.var 3) (.glc "MOST_RIDES")) (.not_ (.tr (.call "is_ride" (.cons (.var 4) .nil))))) (.seq .never .skip) .skip) .skip) δ' W' X)
        { nx := fun δ' => wS C (.seq (.asgO 0 "own_ends" (.call "ends_of" (.cons (.var 1) (.cons (.var 2) .nil)))) .skip) δ' W X, rt := W.rt, bk := W.bk, ct := W.ct } (enumD (rs.map p2)) [.ownO a d "Daily" [], .val (.int l), R.sl (sqR b (rs.map p2)), .non, .non] := by
      rw [enumD_map]
      refine ⟨by simp [enA_length]; omega, ?_⟩
      refine forD_of (fun xs δ => ∃ (ys : List (Int × (Int × Int))) (s1 s2 : Sl), xs = ys.map (fun q => .tup [.int q.1, p2 q.2]) ∧ (∀ y ∈ ys, y ∈ enA rs) ∧ δ = [.ownO a d "Daily" [], .val (.int l), R.sl (sqR b (rs.map p2)), s1, s2]) ?_ ?_ ⟨enA rs, .non, .non, rfl, fun _ z => z, rfl⟩
      · rintro δ ⟨ys, s1, s2, _, _, rfl⟩
        simp [wS, wE, wEs, wT, wC, wO, wIt, wipeD, frzD, Cst.d, asAll, startD, wEq_int, wEq_str, wEq_bl, wBi_len, wBi_abs, wBi_min2, wBi_max2, see_val, see_fresh, see_brw, dat_val, dat_fresh, out_val, out_fresh, out_stt, tru_non, tru_bl, tru_int, tru_lst, tru_tup, tru_fresh, tru_brw, as_vv, as_vf, as_s, as_av, as_af, as_ab, as_bf, as_bb, as_bl, lv_lst, lv_fresh, lv_brw, int_int, len_lst, len_tup, len_frl, len_fresh, len_brw, rd_val, rd_own, rd_bor, rd_stt, it_lst, it_tup, it_frl, it_fresh, it_brw, bin_add, bin_sub, bin_mul, bin_fdiv, bin_mod, bin_pow, bin_str, cat_vv, cat_vf, cat_vb, rep_v, cat_fv, cat_ff, cat_fb, rep_f, cat_bv, cat_bf, cat_bb, rep_b, cmp_eq_vv, cmp_eq_fv, cmp_eq_vf, cmp_eq_ff, cmp_eq_fb, cmp_eq_bv, cmp_eq_vb, cmp_eq_bf, cmp_eq_bb, cmp_ne_vv, cmp_ne_fv, cmp_ne_vf, cmp_ne_ff, cmp_ne_fb, cmp_ne_bv, cmp_ne_vb, cmp_ne_bf, cmp_ne_bb, cmp_lt, cmp_le, cmp_gt, cmp_ge, cmp_is_non, cmp_isn_non, cmp_is_bl, cmp_isn_bl, isNon_non, isNon_int, isNon_str, isNon_lst, isNon_tup, isNon_frl, isNon_obj, isNon_bl, ix_tup, ix_v, ix_f, ix_b, tg_nm, tg_t2, tg_t3, asg_nm, asg_t2, asg_t3, nm_val, nm_fresh, nm_stt, sl_val, sl_brw, sl_stt, ty_int, ty_tt, ty_tv, ty_lv, ty_tf, ty_lf, ty_tb, ty_lb, ty_lt, slc_tup, slc_v, slc_f, slc_b, slc_str, ti, li, p2, it_sq, len_sq, rng_1, rng_2, it_sqR, len_sqR, rd_sqR, as_sqR, h3.1]
        refine wcall_of (α := Nat × SqK × List (Int × Int)) (l, b, rs) (by simp [wS, wE, wEs, wT, wC, wO, wIt, wipeD, frzD, Cst.d, asAll, startD, wEq_int, wEq_str, wEq_bl, wBi_len, wBi_abs, wBi_min2, wBi_max2, see_val, see_fresh, see_brw, dat_val, dat_fresh, out_val, out_fresh, out_stt, tru_non, tru_bl, tru_int, tru_lst, tru_tup, tru_fresh, tru_brw, as_vv, as_vf, as_s, as_av, as_af, as_ab, as_bf, as_bb, as_bl, lv_lst, lv_fresh, lv_brw, int_int, len_lst, len_tup, len_frl, len_fresh, len_brw, rd_val, rd_own, rd_bor, rd_stt, it_lst, it_tup, it_frl, it_fresh, it_brw, bin_add, bin_sub, bin_mul, bin_fdiv, bin_mod, bin_pow, bin_str, cat_vv, cat_vf, cat_vb, rep_v, cat_fv, cat_ff, cat_fb, rep_f, cat_bv, cat_bf, cat_bb, rep_b, cmp_eq_vv, cmp_eq_fv, cmp_eq_vf, cmp_eq_ff, cmp_eq_fb, cmp_eq_bv, cmp_eq_vb, cmp_eq_bf, cmp_eq_bb, cmp_ne_vv, cmp_ne_fv, cmp_ne_vf, cmp_ne_ff, cmp_ne_fb, cmp_ne_bv, cmp_ne_vb, cmp_ne_bf, cmp_ne_bb, cmp_lt, cmp_le, cmp_gt, cmp_ge, cmp_is_non, cmp_isn_non, cmp_is_bl, cmp_isn_bl, isNon_non, isNon_int, isNon_str, isNon_lst, isNon_tup, isNon_frl, isNon_obj, isNon_bl, ix_tup, ix_v, ix_f, ix_b, tg_nm, tg_t2, tg_t3, asg_nm, asg_t2, asg_t3, nm_val, nm_fresh, nm_stt, sl_val, sl_brw, sl_stt, ty_int, ty_tt, ty_tv, ty_lv, ty_tf, ty_lf, ty_tb, ty_lb, ty_lt, slc_tup, slc_v, slc_f, slc_b, slc_str, ti, li, p2, it_sq, len_sq, rng_1, rng_2, it_sqR, len_sqR, rd_sqR, as_sqR]) ⟨k1, k2, k3, k4⟩ ?_
        rintro r rfl
        simp [wS, wE, wEs, wT, wC, wO, wIt, wipeD, frzD, Cst.d, asAll, startD, wEq_int, wEq_str, wEq_bl, wBi_len, wBi_abs, wBi_min2, wBi_max2, see_val, see_fresh, see_brw, dat_val, dat_fresh, out_val, out_fresh, out_stt, tru_non, tru_bl, tru_int, tru_lst, tru_tup, tru_fresh, tru_brw, as_vv, as_vf, as_s, as_av, as_af, as_ab, as_bf, as_bb, as_bl, lv_lst, lv_fresh, lv_brw, int_int, len_lst, len_tup, len_frl, len_fresh, len_brw, rd_val, rd_own, rd_bor, rd_stt, it_lst, it_tup, it_frl, it_fresh, it_brw, bin_add, bin_sub, bin_mul, bin_fdiv, bin_mod, bin_pow, bin_str, cat_vv, cat_vf, cat_vb, rep_v, cat_fv, cat_ff, cat_fb, rep_f, cat_bv, cat_bf, cat_bb, rep_b, cmp_eq_vv, cmp_eq_fv, cmp_eq_vf, cmp_eq_ff, cmp_eq_fb, cmp_eq_bv, cmp_eq_vb, cmp_eq_bf, cmp_eq_bb, cmp_ne_vv, cmp_ne_fv, cmp_ne_vf, cmp_ne_ff, cmp_ne_fb, cmp_ne_bv, cmp_ne_vb, cmp_ne_bf, cmp_ne_bb, cmp_lt, cmp_le, cmp_gt, cmp_ge, cmp_is_non, cmp_isn_non, cmp_is_bl, cmp_isn_bl, isNon_non, isNon_int, isNon_str, isNon_lst, isNon_tup, isNon_frl, isNon_obj, isNon_bl, ix_tup, ix_v, ix_f, ix_b, tg_nm, tg_t2, tg_t3, asg_nm, asg_t2, asg_t3, nm_val, nm_fresh, nm_stt, sl_val, sl_brw, sl_stt, ty_int, ty_tt, ty_tv, ty_lv, ty_tf, ty_lf, ty_tb, ty_lb, ty_lt, slc_tup, slc_v, slc_f, slc_b, slc_str, ti, li, p2, it_sq, len_sq, rng_1, rng_2, it_sqR, len_sqR, rd_sqR, as_sqR, h5]
        exact hW _ rfl
      · rintro x xs δ k ⟨ys, s1, s2, e1, e2, rfl⟩ hk
        cases ys with
        | nil => cases e1
        | cons y ys =>
          simp only [List.map_cons, List.cons.injEq] at e1
          obtain ⟨rfl, e1⟩ := e1
          obtain ⟨m1, m2, m3⟩ := mem_enA (e2 y (by simp))
          have ny : ¬ (y.1 = 60) := by omega
          simp [wS, wE, wEs, wT, wC, wO, wIt, wipeD, frzD, Cst.d, asAll, startD, wEq_int, wEq_str, wEq_bl, wBi_len, wBi_abs, wBi_min2, wBi_max2, see_val, see_fresh, see_brw, dat_val, dat_fresh, out_val, out_fresh, out_stt, tru_non, tru_bl, tru_int, tru_lst, tru_tup, tru_fresh, tru_brw, as_vv, as_vf, as_s, as_av, as_af, as_ab, as_bf, as_bb, as_bl, lv_lst, lv_fresh, lv_brw, int_int, len_lst, len_tup, len_frl, len_fresh, len_brw, rd_val, rd_own, rd_bor, rd_stt, it_lst, it_tup, it_frl, it_fresh, it_brw, bin_add, bin_sub, bin_mul, bin_fdiv, bin_mod, bin_pow, bin_str, cat_vv, cat_vf, cat_vb, rep_v, cat_fv, cat_ff, cat_fb, rep_f, cat_bv, cat_bf, cat_bb, rep_b, cmp_eq_vv, cmp_eq_fv, cmp_eq_vf, cmp_eq_ff, cmp_eq_fb, cmp_eq_bv, cmp_eq_vb, cmp_eq_bf, cmp_eq_bb, cmp_ne_vv, cmp_ne_fv, cmp_ne_vf, cmp_ne_ff, cmp_ne_fb, cmp_ne_bv, cmp_ne_vb, cmp_ne_bf, cmp_ne_bb, cmp_lt, cmp_le, cmp_gt, cmp_ge, cmp_is_non, cmp_isn_non, cmp_is_bl, cmp_isn_bl, isNon_non, isNon_int, isNon_str, isNon_lst, isNon_tup, isNon_frl, isNon_obj, isNon_bl, ix_tup, ix_v, ix_f, ix_b, tg_nm, tg_t2, tg_t3, asg_nm, asg_t2, asg_t3, nm_val, nm_fresh, nm_stt, sl_val, sl_brw, sl_stt, ty_int, ty_tt, ty_tv, ty_lv, ty_tf, ty_lf, ty_tb, ty_lb, ty_lt, slc_tup, slc_v, slc_f, slc_b, slc_str, ti, li, p2, it_sq, len_sq, rng_1, rng_2, it_sqR, len_sqR, rd_sqR, as_sqR, h2.1, h4, ny]
          refine wcall_of (α := Int × Int) y.2 rfl trivial ?_
          rintro r rfl
          simp [wS, wE, wEs, wT, wC, wO, wIt, wipeD, frzD, Cst.d, asAll, startD, wEq_int, wEq_str, wEq_bl, wBi_len, wBi_abs, wBi_min2, wBi_max2, see_val, see_fresh, see_brw, dat_val, dat_fresh, out_val, out_fresh, out_stt, tru_non, tru_bl, tru_int, tru_lst, tru_tup, tru_fresh, tru_brw, as_vv, as_vf, as_s, as_av, as_af, as_ab, as_bf, as_bb, as_bl, lv_lst, lv_fresh, lv_brw, int_int, len_lst, len_tup, len_frl, len_fresh, len_brw, rd_val, rd_own, rd_bor, rd_stt, it_lst, it_tup, it_frl, it_fresh, it_brw, bin_add, bin_sub, bin_mul, bin_fdiv, bin_mod, bin_pow, bin_str, cat_vv, cat_vf, cat_vb, rep_v, cat_fv, cat_ff, cat_fb, rep_f, cat_bv, cat_bf, cat_bb, rep_b, cmp_eq_vv, cmp_eq_fv, cmp_eq_vf, cmp_eq_ff, cmp_eq_fb, cmp_eq_bv, cmp_eq_vb, cmp_eq_bf, cmp_eq_bb, cmp_ne_vv, cmp_ne_fv, cmp_ne_vf, cmp_ne_ff, cmp_ne_fb, cmp_ne_bv, cmp_ne_vb, cmp_ne_bf, cmp_ne_bb, cmp_lt, cmp_le, cmp_gt, cmp_ge, cmp_is_non, cmp_isn_non, cmp_is_bl, cmp_isn_bl, isNon_non, isNon_int, isNon_str, isNon_lst, isNon_tup, isNon_frl, isNon_obj, isNon_bl, ix_tup, ix_v, ix_f, ix_b, tg_nm, tg_t2, tg_t3, asg_nm, asg_t2, asg_t3, nm_val, nm_fresh, nm_stt, sl_val, sl_brw, sl_stt, ty_int, ty_tt, ty_tv, ty_lv, ty_tf, ty_lf, ty_tb, ty_lb, ty_lt, slc_tup, slc_v, slc_f, slc_b, slc_str, ti, li, p2, it_sq, len_sq, rng_1, rng_2, it_sqR, len_sqR, rd_sqR, as_sqR, k5 _ m3]
          exact hk _ ⟨ys, _, _, e1, fun z hz => e2 z (by simp [hz]), rfl⟩
    cases b
    · exact ⟨rfl, key.1, key.2⟩
    · exact ⟨rfl, key.1, key.2⟩
    · exact ⟨rfl, key.1, key.2⟩
  have hlen : ¬ (rs.length = 0) := by
    intro z
    exact k3 (List.length_eq_zero_iff.mp z)
  have hlen2 : ¬ ((rs.length : Int) = 0) := by omega
  cases b
  all_goals
    show wS C (.seq (.drop (.call "need_length" (.cons (.var 1) .nil))) (.seq (.ifs (.or_ (.not_ (.tr (.isi (.var 2) [.b "list", .b "tuple"]))) (.cmp .eq (.bi "len" (.cons (.var 2) .nil)) (eI 0))) (.seq .never .skip) .skip) irDInitB)) _ _ _
    simp [n_Daily___init__, wS, wE, wEs, wT, wC, wO, wIt, wipeD, frzD, Cst.d, asAll, startD, wEq_int, wEq_str, wEq_bl, wBi_len, wBi_abs, wBi_min2, wBi_max2, see_val, see_fresh, see_brw, dat_val, dat_fresh, out_val, out_fresh, out_stt, tru_non, tru_bl, tru_int, tru_lst, tru_tup, tru_fresh, tru_brw, as_vv, as_vf, as_s, as_av, as_af, as_ab, as_bf, as_bb, as_bl, lv_lst, lv_fresh, lv_brw, int_int, len_lst, len_tup, len_frl, len_fresh, len_brw, rd_val, rd_own, rd_bor, rd_stt, it_lst, it_tup, it_frl, it_fresh, it_brw, bin_add, bin_sub, bin_mul, bin_fdiv, bin_mod, bin_pow, bin_str, cat_vv, cat_vf, cat_vb, rep_v, cat_fv, cat_ff, cat_fb, rep_f, cat_bv, cat_bf, cat_bb, rep_b, cmp_eq_vv, cmp_eq_fv, cmp_eq_vf, cmp_eq_ff, cmp_eq_fb, cmp_eq_bv, cmp_eq_vb, cmp_eq_bf, cmp_eq_bb, cmp_ne_vv, cmp_ne_fv, cmp_ne_vf, cmp_ne_ff, cmp_ne_fb, cmp_ne_bv, cmp_ne_vb, cmp_ne_bf, cmp_ne_bb, cmp_lt, cmp_le, cmp_gt, cmp_ge, cmp_is_non, cmp_isn_non, cmp_is_bl, cmp_isn_bl, isNon_non, isNon_int, isNon_str, isNon_lst, isNon_tup, isNon_frl, isNon_obj, isNon_bl, ix_tup, ix_v, ix_f, ix_b, tg_nm, tg_t2, tg_t3, asg_nm, asg_t2, asg_t3, nm_val, nm_fresh, nm_stt, sl_val, sl_brw, sl_stt, ty_int, ty_tt, ty_tv, ty_lv, ty_tf, ty_lf, ty_tb, ty_lb, ty_lt, slc_tup, slc_v, slc_f, slc_b, slc_str, ti, li, p2, it_sq, len_sq, rng_1, rng_2, it_sqR, len_sqR, rd_sqR, as_sqR, h1.1]
    refine wcall_of (α := Int) (l : Int) rfl ⟨by omega, by omega⟩ ?_
    rintro r rfl
    simp [wS, wE, wEs, wT, wC, wO, wIt, wipeD, frzD, Cst.d, asAll, startD, wEq_int, wEq_str, wEq_bl, wBi_len, wBi_abs, wBi_min2, wBi_max2, see_val, see_fresh, see_brw, dat_val, dat_fresh, out_val, out_fresh, out_stt, tru_non, tru_bl, tru_int, tru_lst, tru_tup, tru_fresh, tru_brw, as_vv, as_vf, as_s, as_av, as_af, as_ab, as_bf, as_bb, as_bl, lv_lst, lv_fresh, lv_brw, int_int, len_lst, len_tup, len_frl, len_fresh, len_brw, rd_val, rd_own, rd_bor, rd_stt, it_lst, it_tup, it_frl, it_fresh, it_brw, bin_add, bin_sub, bin_mul, bin_fdiv, bin_mod, bin_pow, bin_str, cat_vv, cat_vf, cat_vb, rep_v, cat_fv, cat_ff, cat_fb, rep_f, cat_bv, cat_bf, cat_bb, rep_b, cmp_eq_vv, cmp_eq_fv, cmp_eq_vf, cmp_eq_ff, cmp_eq_fb, cmp_eq_bv, cmp_eq_vb, cmp_eq_bf, cmp_eq_bb, cmp_ne_vv, cmp_ne_fv, cmp_ne_vf, cmp_ne_ff, cmp_ne_fb, cmp_ne_bv, cmp_ne_vb, cmp_ne_bf, cmp_ne_bb, cmp_lt, cmp_le, cmp_gt, cmp_ge, cmp_is_non, cmp_isn_non, cmp_is_bl, cmp_isn_bl, isNon_non, isNon_int, isNon_str, isNon_lst, isNon_tup, isNon_frl, isNon_obj, isNon_bl, ix_tup, ix_v, ix_f, ix_b, tg_nm, tg_t2, tg_t3, asg_nm, asg_t2, asg_t3, nm_val, nm_fresh, nm_stt, sl_val, sl_brw, sl_stt, ty_int, ty_tt, ty_tv, ty_lv, ty_tf, ty_lf, ty_tb, ty_lb, ty_lt, slc_tup, slc_v, slc_f, slc_b, slc_str, ti, li, p2, it_sq, len_sq, rng_1, rng_2, it_sqR, len_sqR, rd_sqR, as_sqR, sqR, D.clsOk, D.tyOf, isaAny, i1, i2, i3, k3]
    exact tail { nx := fun δ => ∃ fl, δ[0]? = some (.ownO a d "Daily" fl) ∧ P (.val (.obj "Daily" fl)), rt := fun _ => False } (fun δ e => ⟨_, e, hP'⟩)
theorem own_no {m : Str} {d : D} (h : (m == ("own_ends" : Str)) = false) : List.lookup m [(("own_ends" : Str), d)] = none := by simp only [List.lookup, h]
theorem no_like {d : D} : List.lookup ("need_like" : Str) [(("own_ends" : Str), d)] = none := own_no (by decide +kernel)
theorem d_length_keeps (h5 : C.fld "Daily" "own_ends" = true) : Keeps C ir_Daily_length n_Daily_length ["self"] fsDLen := by
  refine keeps_of fun es P X hd hP => ⟨rfl, ?_⟩
  have hP := hP _ rfl
  simp [ir_Daily_length, n_Daily_length, wS, wE, wEs, wT, wC, wO, wIt, wipeD, frzD, Cst.d, asAll, startD, wEq_int, wEq_str, wEq_bl, wBi_len, wBi_abs, wBi_min2, wBi_max2, see_val, see_fresh, see_brw, dat_val, dat_fresh, out_val, out_fresh, out_stt, tru_non, tru_bl, tru_int, tru_lst, tru_tup, tru_fresh, tru_brw, as_vv, as_vf, as_s, as_av, as_af, as_ab, as_bf, as_bb, as_bl, lv_lst, lv_fresh, lv_brw, int_int, len_lst, len_tup, len_frl, len_fresh, len_brw, rd_val, rd_own, rd_bor, rd_stt, it_lst, it_tup, it_frl, it_fresh, it_brw, bin_add, bin_sub, bin_mul, bin_fdiv, bin_mod, bin_pow, bin_str, cat_vv, cat_vf, cat_vb, rep_v, cat_fv, cat_ff, cat_fb, rep_f, cat_bv, cat_bf, cat_bb, rep_b, cmp_eq_vv, cmp_eq_fv, cmp_eq_vf, cmp_eq_ff, cmp_eq_fb, cmp_eq_bv, cmp_eq_vb, cmp_eq_bf, cmp_eq_bb, cmp_ne_vv, cmp_ne_fv, cmp_ne_vf, cmp_ne_ff, cmp_ne_fb, cmp_ne_bv, cmp_ne_vb, cmp_ne_bf, cmp_ne_bb, cmp_lt, cmp_le, cmp_gt, cmp_ge, cmp_is_non, cmp_isn_non, cmp_is_bl, cmp_isn_bl, isNon_non, isNon_int, isNon_str, isNon_lst, isNon_tup, isNon_frl, isNon_obj, isNon_bl, ix_tup, ix_v, ix_f, ix_b, tg_nm, tg_t2, tg_t3, asg_nm, asg_t2, asg_t3, nm_val, nm_fresh, nm_stt, sl_val, sl_brw, sl_stt, ty_int, ty_tt, ty_tv, ty_lv, ty_tf, ty_lf, ty_tb, ty_lb, ty_lt, slc_tup, slc_v, slc_f, slc_b, slc_str, ti, li, p2, it_sq, len_sq, rng_1, rng_2, it_sqR, len_sqR, rd_sqR, as_sqR, dailyD, h5]
  exact hP
theorem d_rides_keeps (h5 : C.fld "Daily" "own_ends" = true) (h1 : KnF C "led_on" fsLedOn 0) : Keeps C ir_Daily_rides n_Daily_rides ["self"] fsDRides := by
  refine keeps_of fun es P X hd hP => ⟨rfl, ?_⟩
  have hP := hP _ rfl
  obtain ⟨k1, k2⟩ := hd
  simp [ir_Daily_rides, n_Daily_rides, wS, wE, wEs, wT, wC, wO, wIt, wipeD, frzD, Cst.d, asAll, startD, wEq_int, wEq_str, wEq_bl, wBi_len, wBi_abs, wBi_min2, wBi_max2, see_val, see_fresh, see_brw, dat_val, dat_fresh, out_val, out_fresh, out_stt, tru_non, tru_bl, tru_int, tru_lst, tru_tup, tru_fresh, tru_brw, as_vv, as_vf, as_s, as_av, as_af, as_ab, as_bf, as_bb, as_bl, lv_lst, lv_fresh, lv_brw, int_int, len_lst, len_tup, len_frl, len_fresh, len_brw, rd_val, rd_own, rd_bor, rd_stt, it_lst, it_tup, it_frl, it_fresh, it_brw, bin_add, bin_sub, bin_mul, bin_fdiv, bin_mod, bin_pow, bin_str, cat_vv, cat_vf, cat_vb, rep_v, cat_fv, cat_ff, cat_fb, rep_f, cat_bv, cat_bf, cat_bb, rep_b, cmp_eq_vv, cmp_eq_fv, cmp_eq_vf, cmp_eq_ff, cmp_eq_fb, cmp_eq_bv, cmp_eq_vb, cmp_eq_bf, cmp_eq_bb, cmp_ne_vv, cmp_ne_fv, cmp_ne_vf, cmp_ne_ff, cmp_ne_fb, cmp_ne_bv, cmp_ne_vb, cmp_ne_bf, cmp_ne_bb, cmp_lt, cmp_le, cmp_gt, cmp_ge, cmp_is_non, cmp_isn_non, cmp_is_bl, cmp_isn_bl, isNon_non, isNon_int, isNon_str, isNon_lst, isNon_tup, isNon_frl, isNon_obj, isNon_bl, ix_tup, ix_v, ix_f, ix_b, tg_nm, tg_t2, tg_t3, asg_nm, asg_t2, asg_t3, nm_val, nm_fresh, nm_stt, sl_val, sl_brw, sl_stt, ty_int, ty_tt, ty_tv, ty_lv, ty_tf, ty_lf, ty_tb, ty_lb, ty_lt, slc_tup, slc_v, slc_f, slc_b, slc_str, ti, li, p2, it_sq, len_sq, rng_1, rng_2, it_sqR, len_sqR, rd_sqR, as_sqR, dailyD, h5, enumD_ints, en_length, costE, h1.1, h1.2]
  refine ⟨size_big (by omega), ?_⟩
  refine walk_filter (g := p2) (f := p2) (c := fun p => decide (p.2 < ledOn es (p.1 + 1))) (fun p hp acc k hk => ?_) ?_
  · simp [wS, wE, wEs, wT, wC, wO, wIt, wipeD, frzD, Cst.d, asAll, startD, wEq_int, wEq_str, wEq_bl, wBi_len, wBi_abs, wBi_min2, wBi_max2, see_val, see_fresh, see_brw, dat_val, dat_fresh, out_val, out_fresh, out_stt, tru_non, tru_bl, tru_int, tru_lst, tru_tup, tru_fresh, tru_brw, as_vv, as_vf, as_s, as_av, as_af, as_ab, as_bf, as_bb, as_bl, lv_lst, lv_fresh, lv_brw, int_int, len_lst, len_tup, len_frl, len_fresh, len_brw, rd_val, rd_own, rd_bor, rd_stt, it_lst, it_tup, it_frl, it_fresh, it_brw, bin_add, bin_sub, bin_mul, bin_fdiv, bin_mod, bin_pow, bin_str, cat_vv, cat_vf, cat_vb, rep_v, cat_fv, cat_ff, cat_fb, rep_f, cat_bv, cat_bf, cat_bb, rep_b, cmp_eq_vv, cmp_eq_fv, cmp_eq_vf, cmp_eq_ff, cmp_eq_fb, cmp_eq_bv, cmp_eq_vb, cmp_eq_bf, cmp_eq_bb, cmp_ne_vv, cmp_ne_fv, cmp_ne_vf, cmp_ne_ff, cmp_ne_fb, cmp_ne_bv, cmp_ne_vb, cmp_ne_bf, cmp_ne_bb, cmp_lt, cmp_le, cmp_gt, cmp_ge, cmp_is_non, cmp_isn_non, cmp_is_bl, cmp_isn_bl, isNon_non, isNon_int, isNon_str, isNon_lst, isNon_tup, isNon_frl, isNon_obj, isNon_bl, ix_tup, ix_v, ix_f, ix_b, tg_nm, tg_t2, tg_t3, asg_nm, asg_t2, asg_t3, nm_val, nm_fresh, nm_stt, sl_val, sl_brw, sl_stt, ty_int, ty_tt, ty_tv, ty_lv, ty_tf, ty_lf, ty_tb, ty_lb, ty_lt, slc_tup, slc_v, slc_f, slc_b, slc_str, ti, li, p2, it_sq, len_sq, rng_1, rng_2, it_sqR, len_sqR, rd_sqR, as_sqR, h5, h1.1, dailyD]
    refine wcall_of (α := List Int × Int) (es, p.1 + 1) rfl ⟨k1, k2⟩ ?_
    rintro r rfl
    simp [wS, wE, wEs, wT, wC, wO, wIt, wipeD, frzD, Cst.d, asAll, startD, wEq_int, wEq_str, wEq_bl, wBi_len, wBi_abs, wBi_min2, wBi_max2, see_val, see_fresh, see_brw, dat_val, dat_fresh, out_val, out_fresh, out_stt, tru_non, tru_bl, tru_int, tru_lst, tru_tup, tru_fresh, tru_brw, as_vv, as_vf, as_s, as_av, as_af, as_ab, as_bf, as_bb, as_bl, lv_lst, lv_fresh, lv_brw, int_int, len_lst, len_tup, len_frl, len_fresh, len_brw, rd_val, rd_own, rd_bor, rd_stt, it_lst, it_tup, it_frl, it_fresh, it_brw, bin_add, bin_sub, bin_mul, bin_fdiv, bin_mod, bin_pow, bin_str, cat_vv, cat_vf, cat_vb, rep_v, cat_fv, cat_ff, cat_fb, rep_f, cat_bv, cat_bf, cat_bb, rep_b, cmp_eq_vv, cmp_eq_fv, cmp_eq_vf, cmp_eq_ff, cmp_eq_fb, cmp_eq_bv, cmp_eq_vb, cmp_eq_bf, cmp_eq_bb, cmp_ne_vv, cmp_ne_fv, cmp_ne_vf, cmp_ne_ff, cmp_ne_fb, cmp_ne_bv, cmp_ne_vb, cmp_ne_bf, cmp_ne_bb, cmp_lt, cmp_le, cmp_gt, cmp_ge, cmp_is_non, cmp_isn_non, cmp_is_bl, cmp_isn_bl, isNon_non, isNon_int, isNon_str, isNon_lst, isNon_tup, isNon_frl, isNon_obj, isNon_bl, ix_tup, ix_v, ix_f, ix_b, tg_nm, tg_t2, tg_t3, asg_nm, asg_t2, asg_t3, nm_val, nm_fresh, nm_stt, sl_val, sl_brw, sl_stt, ty_int, ty_tt, ty_tv, ty_lv, ty_tf, ty_lf, ty_tb, ty_lb, ty_lt, slc_tup, slc_v, slc_f, slc_b, slc_str, ti, li, p2, it_sq, len_sq, rng_1, rng_2, it_sqR, len_sqR, rd_sqR, as_sqR]
    have z4 : (2 : Nat) ≤ sizeLine := by rw [sizeLine_eq]; decide
    by_cases q : p.2 < ledOn es (p.1 + 1)
    · simpa [q, wS, wE, wEs, wT, wC, wO, wIt, wipeD, frzD, Cst.d, asAll, startD, wEq_int, wEq_str, wEq_bl, wBi_len, wBi_abs, wBi_min2, wBi_max2, see_val, see_fresh, see_brw, dat_val, dat_fresh, out_val, out_fresh, out_stt, tru_non, tru_bl, tru_int, tru_lst, tru_tup, tru_fresh, tru_brw, as_vv, as_vf, as_s, as_av, as_af, as_ab, as_bf, as_bb, as_bl, lv_lst, lv_fresh, lv_brw, int_int, len_lst, len_tup, len_frl, len_fresh, len_brw, rd_val, rd_own, rd_bor, rd_stt, it_lst, it_tup, it_frl, it_fresh, it_brw, bin_add, bin_sub, bin_mul, bin_fdiv, bin_mod, bin_pow, bin_str, cat_vv, cat_vf, cat_vb, rep_v, cat_fv, cat_ff, cat_fb, rep_f, cat_bv, cat_bf, cat_bb, rep_b, cmp_eq_vv, cmp_eq_fv, cmp_eq_vf, cmp_eq_ff, cmp_eq_fb, cmp_eq_bv, cmp_eq_vb, cmp_eq_bf, cmp_eq_bb, cmp_ne_vv, cmp_ne_fv, cmp_ne_vf, cmp_ne_ff, cmp_ne_fb, cmp_ne_bv, cmp_ne_vb, cmp_ne_bf, cmp_ne_bb, cmp_lt, cmp_le, cmp_gt, cmp_ge, cmp_is_non, cmp_isn_non, cmp_is_bl, cmp_isn_bl, isNon_non, isNon_int, isNon_str, isNon_lst, isNon_tup, isNon_frl, isNon_obj, isNon_bl, ix_tup, ix_v, ix_f, ix_b, tg_nm, tg_t2, tg_t3, asg_nm, asg_t2, asg_t3, nm_val, nm_fresh, nm_stt, sl_val, sl_brw, sl_stt, ty_int, ty_tt, ty_tv, ty_lv, ty_tf, ty_lf, ty_tb, ty_lb, ty_lt, slc_tup, slc_v, slc_f, slc_b, slc_str, ti, li, p2, it_sq, len_sq, rng_1, rng_2, it_sqR, len_sqR, rd_sqR, as_sqR, z4] using hk
    · simpa [q] using hk
  · simp [wS, wE, wEs, wT, wC, wO, wIt, wipeD, frzD, Cst.d, asAll, startD, wEq_int, wEq_str, wEq_bl, wBi_len, wBi_abs, wBi_min2, wBi_max2, see_val, see_fresh, see_brw, dat_val, dat_fresh, out_val, out_fresh, out_stt, tru_non, tru_bl, tru_int, tru_lst, tru_tup, tru_fresh, tru_brw, as_vv, as_vf, as_s, as_av, as_af, as_ab, as_bf, as_bb, as_bl, lv_lst, lv_fresh, lv_brw, int_int, len_lst, len_tup, len_frl, len_fresh, len_brw, rd_val, rd_own, rd_bor, rd_stt, it_lst, it_tup, it_frl, it_fresh, it_brw, bin_add, bin_sub, bin_mul, bin_fdiv, bin_mod, bin_pow, bin_str, cat_vv, cat_vf, cat_vb, rep_v, cat_fv, cat_ff, cat_fb, rep_f, cat_bv, cat_bf, cat_bb, rep_b, cmp_eq_vv, cmp_eq_fv, cmp_eq_vf, cmp_eq_ff, cmp_eq_fb, cmp_eq_bv, cmp_eq_vb, cmp_eq_bf, cmp_eq_bb, cmp_ne_vv, cmp_ne_fv, cmp_ne_vf, cmp_ne_ff, cmp_ne_fb, cmp_ne_bv, cmp_ne_vb, cmp_ne_bf, cmp_ne_bb, cmp_lt, cmp_le, cmp_gt, cmp_ge, cmp_is_non, cmp_isn_non, cmp_is_bl, cmp_isn_bl, isNon_non, isNon_int, isNon_str, isNon_lst, isNon_tup, isNon_frl, isNon_obj, isNon_bl, ix_tup, ix_v, ix_f, ix_b, tg_nm, tg_t2, tg_t3, asg_nm, asg_t2, asg_t3, nm_val, nm_fresh, nm_stt, sl_val, sl_brw, sl_stt, ty_int, ty_tt, ty_tv, ty_lv, ty_tf, ty_lf, ty_tb, ty_lb, ty_lt, slc_tup, slc_v, slc_f, slc_b, slc_str, ti, li, p2, it_sq, len_sq, rng_1, rng_2, it_sqR, len_sqR, rd_sqR, as_sqR]
    exact hP
theorem d_end_keeps (h5 : C.fld "Daily" "own_ends" = true) (h1 : KnF C "need_numbers" (fsStar fsNeedNumbers) 0) (h2 : KnF C "led_on" fsLedOn 0) : Keeps C ir_Daily_end n_Daily_end ["self", "number"] fsDEnd := by
  refine keeps_of fun a P X hd hP => ⟨rfl, ?_⟩
  have hP := hP _ rfl
  obtain ⟨es, n⟩ := a
  simp [ir_Daily_end, n_Daily_end, wS, wE, wEs, wT, wC, wO, wIt, wipeD, frzD, Cst.d, asAll, startD, wEq_int, wEq_str, wEq_bl, wBi_len, wBi_abs, wBi_min2, wBi_max2, see_val, see_fresh, see_brw, dat_val, dat_fresh, out_val, out_fresh, out_stt, tru_non, tru_bl, tru_int, tru_lst, tru_tup, tru_fresh, tru_brw, as_vv, as_vf, as_s, as_av, as_af, as_ab, as_bf, as_bb, as_bl, lv_lst, lv_fresh, lv_brw, int_int, len_lst, len_tup, len_frl, len_fresh, len_brw, rd_val, rd_own, rd_bor, rd_stt, it_lst, it_tup, it_frl, it_fresh, it_brw, bin_add, bin_sub, bin_mul, bin_fdiv, bin_mod, bin_pow, bin_str, cat_vv, cat_vf, cat_vb, rep_v, cat_fv, cat_ff, cat_fb, rep_f, cat_bv, cat_bf, cat_bb, rep_b, cmp_eq_vv, cmp_eq_fv, cmp_eq_vf, cmp_eq_ff, cmp_eq_fb, cmp_eq_bv, cmp_eq_vb, cmp_eq_bf, cmp_eq_bb, cmp_ne_vv, cmp_ne_fv, cmp_ne_vf, cmp_ne_ff, cmp_ne_fb, cmp_ne_bv, cmp_ne_vb, cmp_ne_bf, cmp_ne_bb, cmp_lt, cmp_le, cmp_gt, cmp_ge, cmp_is_non, cmp_isn_non, cmp_is_bl, cmp_isn_bl, isNon_non, isNon_int, isNon_str, isNon_lst, isNon_tup, isNon_frl, isNon_obj, isNon_bl, ix_tup, ix_v, ix_f, ix_b, tg_nm, tg_t2, tg_t3, asg_nm, asg_t2, asg_t3, nm_val, nm_fresh, nm_stt, sl_val, sl_brw, sl_stt, ty_int, ty_tt, ty_tv, ty_lv, ty_tf, ty_lf, ty_tb, ty_lb, ty_lt, slc_tup, slc_v, slc_f, slc_b, slc_str, ti, li, p2, it_sq, len_sq, rng_1, rng_2, it_sqR, len_sqR, rd_sqR, as_sqR, dailyD, h5, h1.1, h2.1]
  refine star_call (xs := [.int n]) rfl (by simp) ⟨[n], rfl, by simp, ?_⟩
  rintro r rfl
  simp [wS, wE, wEs, wT, wC, wO, wIt, wipeD, frzD, Cst.d, asAll, startD, wEq_int, wEq_str, wEq_bl, wBi_len, wBi_abs, wBi_min2, wBi_max2, see_val, see_fresh, see_brw, dat_val, dat_fresh, out_val, out_fresh, out_stt, tru_non, tru_bl, tru_int, tru_lst, tru_tup, tru_fresh, tru_brw, as_vv, as_vf, as_s, as_av, as_af, as_ab, as_bf, as_bb, as_bl, lv_lst, lv_fresh, lv_brw, int_int, len_lst, len_tup, len_frl, len_fresh, len_brw, rd_val, rd_own, rd_bor, rd_stt, it_lst, it_tup, it_frl, it_fresh, it_brw, bin_add, bin_sub, bin_mul, bin_fdiv, bin_mod, bin_pow, bin_str, cat_vv, cat_vf, cat_vb, rep_v, cat_fv, cat_ff, cat_fb, rep_f, cat_bv, cat_bf, cat_bb, rep_b, cmp_eq_vv, cmp_eq_fv, cmp_eq_vf, cmp_eq_ff, cmp_eq_fb, cmp_eq_bv, cmp_eq_vb, cmp_eq_bf, cmp_eq_bb, cmp_ne_vv, cmp_ne_fv, cmp_ne_vf, cmp_ne_ff, cmp_ne_fb, cmp_ne_bv, cmp_ne_vb, cmp_ne_bf, cmp_ne_bb, cmp_lt, cmp_le, cmp_gt, cmp_ge, cmp_is_non, cmp_isn_non, cmp_is_bl, cmp_isn_bl, isNon_non, isNon_int, isNon_str, isNon_lst, isNon_tup, isNon_frl, isNon_obj, isNon_bl, ix_tup, ix_v, ix_f, ix_b, tg_nm, tg_t2, tg_t3, asg_nm, asg_t2, asg_t3, nm_val, nm_fresh, nm_stt, sl_val, sl_brw, sl_stt, ty_int, ty_tt, ty_tv, ty_lv, ty_tf, ty_lf, ty_tb, ty_lb, ty_lt, slc_tup, slc_v, slc_f, slc_b, slc_str, ti, li, p2, it_sq, len_sq, rng_1, rng_2, it_sqR, len_sqR, rd_sqR, as_sqR, h5]
  refine wcall_of (α := List Int × Int) (es, n) rfl hd ?_
  rintro r rfl
  exact ⟨rfl, hP⟩
theorem d_begin_keeps (h5 : C.fld "Daily" "own_ends" = true) (h1 : KnF C "need_numbers" (fsStar fsNeedNumbers) 0) (h2 : KnF C "led_back" fsLedBack 0) : Keeps C ir_Daily_begin n_Daily_begin ["self", "number"] fsDBegin := by
  refine keeps_of fun a P X hd hP => ⟨rfl, ?_⟩
  have hP := hP _ rfl
  obtain ⟨es, n⟩ := a
  simp [ir_Daily_begin, n_Daily_begin, wS, wE, wEs, wT, wC, wO, wIt, wipeD, frzD, Cst.d, asAll, startD, wEq_int, wEq_str, wEq_bl, wBi_len, wBi_abs, wBi_min2, wBi_max2, see_val, see_fresh, see_brw, dat_val, dat_fresh, out_val, out_fresh, out_stt, tru_non, tru_bl, tru_int, tru_lst, tru_tup, tru_fresh, tru_brw, as_vv, as_vf, as_s, as_av, as_af, as_ab, as_bf, as_bb, as_bl, lv_lst, lv_fresh, lv_brw, int_int, len_lst, len_tup, len_frl, len_fresh, len_brw, rd_val, rd_own, rd_bor, rd_stt, it_lst, it_tup, it_frl, it_fresh, it_brw, bin_add, bin_sub, bin_mul, bin_fdiv, bin_mod, bin_pow, bin_str, cat_vv, cat_vf, cat_vb, rep_v, cat_fv, cat_ff, cat_fb, rep_f, cat_bv, cat_bf, cat_bb, rep_b, cmp_eq_vv, cmp_eq_fv, cmp_eq_vf, cmp_eq_ff, cmp_eq_fb, cmp_eq_bv, cmp_eq_vb, cmp_eq_bf, cmp_eq_bb, cmp_ne_vv, cmp_ne_fv, cmp_ne_vf, cmp_ne_ff, cmp_ne_fb, cmp_ne_bv, cmp_ne_vb, cmp_ne_bf, cmp_ne_bb, cmp_lt, cmp_le, cmp_gt, cmp_ge, cmp_is_non, cmp_isn_non, cmp_is_bl, cmp_isn_bl, isNon_non, isNon_int, isNon_str, isNon_lst, isNon_tup, isNon_frl, isNon_obj, isNon_bl, ix_tup, ix_v, ix_f, ix_b, tg_nm, tg_t2, tg_t3, asg_nm, asg_t2, asg_t3, nm_val, nm_fresh, nm_stt, sl_val, sl_brw, sl_stt, ty_int, ty_tt, ty_tv, ty_lv, ty_tf, ty_lf, ty_tb, ty_lb, ty_lt, slc_tup, slc_v, slc_f, slc_b, slc_str, ti, li, p2, it_sq, len_sq, rng_1, rng_2, it_sqR, len_sqR, rd_sqR, as_sqR, dailyD, h5, h1.1, h2.1]
  refine star_call (xs := [.int n]) rfl (by simp) ⟨[n], rfl, by simp, ?_⟩
  rintro r rfl
  simp [wS, wE, wEs, wT, wC, wO, wIt, wipeD, frzD, Cst.d, asAll, startD, wEq_int, wEq_str, wEq_bl, wBi_len, wBi_abs, wBi_min2, wBi_max2, see_val, see_fresh, see_brw, dat_val, dat_fresh, out_val, out_fresh, out_stt, tru_non, tru_bl, tru_int, tru_lst, tru_tup, tru_fresh, tru_brw, as_vv, as_vf, as_s, as_av, as_af, as_ab, as_bf, as_bb, as_bl, lv_lst, lv_fresh, lv_brw, int_int, len_lst, len_tup, len_frl, len_fresh, len_brw, rd_val, rd_own, rd_bor, rd_stt, it_lst, it_tup, it_frl, it_fresh, it_brw, bin_add, bin_sub, bin_mul, bin_fdiv, bin_mod, bin_pow, bin_str, cat_vv, cat_vf, cat_vb, rep_v, cat_fv, cat_ff, cat_fb, rep_f, cat_bv, cat_bf, cat_bb, rep_b, cmp_eq_vv, cmp_eq_fv, cmp_eq_vf, cmp_eq_ff, cmp_eq_fb, cmp_eq_bv, cmp_eq_vb, cmp_eq_bf, cmp_eq_bb, cmp_ne_vv, cmp_ne_fv, cmp_ne_vf, cmp_ne_ff, cmp_ne_fb, cmp_ne_bv, cmp_ne_vb, cmp_ne_bf, cmp_ne_bb, cmp_lt, cmp_le, cmp_gt, cmp_ge, cmp_is_non, cmp_isn_non, cmp_is_bl, cmp_isn_bl, isNon_non, isNon_int, isNon_str, isNon_lst, isNon_tup, isNon_frl, isNon_obj, isNon_bl, ix_tup, ix_v, ix_f, ix_b, tg_nm, tg_t2, tg_t3, asg_nm, asg_t2, asg_t3, nm_val, nm_fresh, nm_stt, sl_val, sl_brw, sl_stt, ty_int, ty_tt, ty_tv, ty_lv, ty_tf, ty_lf, ty_tb, ty_lb, ty_lt, slc_tup, slc_v, slc_f, slc_b, slc_str, ti, li, p2, it_sq, len_sq, rng_1, rng_2, it_sqR, len_sqR, rd_sqR, as_sqR, h5]
  refine wcall_of (α := List Int × Int) (es, n) rfl hd ?_
  rintro r rfl
  exact ⟨rfl, hP⟩
theorem d_like_keeps (h1 : KnP C "Daily" "length" fsDLen) : Keeps C ir_Daily_need_like n_Daily_need_like ["self", "other"] fsDLike := by
  refine keeps_of fun a P X hd hP => ⟨rfl, ?_⟩
  have hP := hP _ rfl
  obtain ⟨xs, ys⟩ := a
  obtain ⟨⟨k1, k2⟩, k3⟩ := hd
  simp only at k1 k2 k3
  have h1 : C.pr "Daily" "length" = some fsDLen := h1
  simp [ir_Daily_need_like, n_Daily_need_like, wS, wE, wEs, wT, wC, wO, wIt, wipeD, frzD, Cst.d, asAll, startD, wEq_int, wEq_str, wEq_bl, wBi_len, wBi_abs, wBi_min2, wBi_max2, see_val, see_fresh, see_brw, dat_val, dat_fresh, out_val, out_fresh, out_stt, tru_non, tru_bl, tru_int, tru_lst, tru_tup, tru_fresh, tru_brw, as_vv, as_vf, as_s, as_av, as_af, as_ab, as_bf, as_bb, as_bl, lv_lst, lv_fresh, lv_brw, int_int, len_lst, len_tup, len_frl, len_fresh, len_brw, rd_val, rd_own, rd_bor, rd_stt, it_lst, it_tup, it_frl, it_fresh, it_brw, bin_add, bin_sub, bin_mul, bin_fdiv, bin_mod, bin_pow, bin_str, cat_vv, cat_vf, cat_vb, rep_v, cat_fv, cat_ff, cat_fb, rep_f, cat_bv, cat_bf, cat_bb, rep_b, cmp_eq_vv, cmp_eq_fv, cmp_eq_vf, cmp_eq_ff, cmp_eq_fb, cmp_eq_bv, cmp_eq_vb, cmp_eq_bf, cmp_eq_bb, cmp_ne_vv, cmp_ne_fv, cmp_ne_vf, cmp_ne_ff, cmp_ne_fb, cmp_ne_bv, cmp_ne_vb, cmp_ne_bf, cmp_ne_bb, cmp_lt, cmp_le, cmp_gt, cmp_ge, cmp_is_non, cmp_isn_non, cmp_is_bl, cmp_isn_bl, isNon_non, isNon_int, isNon_str, isNon_lst, isNon_tup, isNon_frl, isNon_obj, isNon_bl, ix_tup, ix_v, ix_f, ix_b, tg_nm, tg_t2, tg_t3, asg_nm, asg_t2, asg_t3, nm_val, nm_fresh, nm_stt, sl_val, sl_brw, sl_stt, ty_int, ty_tt, ty_tv, ty_lv, ty_tf, ty_lf, ty_tb, ty_lb, ty_lt, slc_tup, slc_v, slc_f, slc_b, slc_str, ti, li, p2, it_sq, len_sq, rng_1, rng_2, it_sqR, len_sqR, rd_sqR, as_sqR, h1, dailyD]
  refine wcall_of (α := List Int) ys rfl ⟨by omega, by omega⟩ ?_
  rintro r rfl
  simp [wS, wE, wEs, wT, wC, wO, wIt, wipeD, frzD, Cst.d, asAll, startD, wEq_int, wEq_str, wEq_bl, wBi_len, wBi_abs, wBi_min2, wBi_max2, see_val, see_fresh, see_brw, dat_val, dat_fresh, out_val, out_fresh, out_stt, tru_non, tru_bl, tru_int, tru_lst, tru_tup, tru_fresh, tru_brw, as_vv, as_vf, as_s, as_av, as_af, as_ab, as_bf, as_bb, as_bl, lv_lst, lv_fresh, lv_brw, int_int, len_lst, len_tup, len_frl, len_fresh, len_brw, rd_val, rd_own, rd_bor, rd_stt, it_lst, it_tup, it_frl, it_fresh, it_brw, bin_add, bin_sub, bin_mul, bin_fdiv, bin_mod, bin_pow, bin_str, cat_vv, cat_vf, cat_vb, rep_v, cat_fv, cat_ff, cat_fb, rep_f, cat_bv, cat_bf, cat_bb, rep_b, cmp_eq_vv, cmp_eq_fv, cmp_eq_vf, cmp_eq_ff, cmp_eq_fb, cmp_eq_bv, cmp_eq_vb, cmp_eq_bf, cmp_eq_bb, cmp_ne_vv, cmp_ne_fv, cmp_ne_vf, cmp_ne_ff, cmp_ne_fb, cmp_ne_bv, cmp_ne_vb, cmp_ne_bf, cmp_ne_bb, cmp_lt, cmp_le, cmp_gt, cmp_ge, cmp_is_non, cmp_isn_non, cmp_is_bl, cmp_isn_bl, isNon_non, isNon_int, isNon_str, isNon_lst, isNon_tup, isNon_frl, isNon_obj, isNon_bl, ix_tup, ix_v, ix_f, ix_b, tg_nm, tg_t2, tg_t3, asg_nm, asg_t2, asg_t3, nm_val, nm_fresh, nm_stt, sl_val, sl_brw, sl_stt, ty_int, ty_tt, ty_tv, ty_lv, ty_tf, ty_lf, ty_tb, ty_lb, ty_lt, slc_tup, slc_v, slc_f, slc_b, slc_str, ti, li, p2, it_sq, len_sq, rng_1, rng_2, it_sqR, len_sqR, rd_sqR, as_sqR]
  refine wcall_of (α := List Int) xs rfl ⟨by omega, by omega⟩ ?_
  rintro r rfl
  simp [wS, wE, wEs, wT, wC, wO, wIt, wipeD, frzD, Cst.d, asAll, startD, wEq_int, wEq_str, wEq_bl, wBi_len, wBi_abs, wBi_min2, wBi_max2, see_val, see_fresh, see_brw, dat_val, dat_fresh, out_val, out_fresh, out_stt, tru_non, tru_bl, tru_int, tru_lst, tru_tup, tru_fresh, tru_brw, as_vv, as_vf, as_s, as_av, as_af, as_ab, as_bf, as_bb, as_bl, lv_lst, lv_fresh, lv_brw, int_int, len_lst, len_tup, len_frl, len_fresh, len_brw, rd_val, rd_own, rd_bor, rd_stt, it_lst, it_tup, it_frl, it_fresh, it_brw, bin_add, bin_sub, bin_mul, bin_fdiv, bin_mod, bin_pow, bin_str, cat_vv, cat_vf, cat_vb, rep_v, cat_fv, cat_ff, cat_fb, rep_f, cat_bv, cat_bf, cat_bb, rep_b, cmp_eq_vv, cmp_eq_fv, cmp_eq_vf, cmp_eq_ff, cmp_eq_fb, cmp_eq_bv, cmp_eq_vb, cmp_eq_bf, cmp_eq_bb, cmp_ne_vv, cmp_ne_fv, cmp_ne_vf, cmp_ne_ff, cmp_ne_fb, cmp_ne_bv, cmp_ne_vb, cmp_ne_bf, cmp_ne_bb, cmp_lt, cmp_le, cmp_gt, cmp_ge, cmp_is_non, cmp_isn_non, cmp_is_bl, cmp_isn_bl, isNon_non, isNon_int, isNon_str, isNon_lst, isNon_tup, isNon_frl, isNon_obj, isNon_bl, ix_tup, ix_v, ix_f, ix_b, tg_nm, tg_t2, tg_t3, asg_nm, asg_t2, asg_t3, nm_val, nm_fresh, nm_stt, sl_val, sl_brw, sl_stt, ty_int, ty_tt, ty_tv, ty_lv, ty_tf, ty_lf, ty_tb, ty_lb, ty_lt, slc_tup, slc_v, slc_f, slc_b, slc_str, ti, li, p2, it_sq, len_sq, rng_1, rng_2, it_sqR, len_sqR, rd_sqR, as_sqR, k3]
  exact hP
theorem d_eq_keeps (h5 : C.fld "Daily" "own_ends" = true) (h1 : C.isa (.c "Daily") (.c "Daily") = some true) (h2 : C.cls "Daily" = true) (h3 : C.isa (.b "tuple") (.c "Daily") = some false) : Keeps C ir_Daily___eq__ n_Daily___eq__ ["self", "other"] fsDEq := by
  refine keeps_of fun a P X hd hP => ⟨rfl, ?_⟩
  have hP := hP _ rfl
  obtain ⟨xs, ys⟩ := a
  cases ys with
  | inl ys =>
    simp [ir_Daily___eq__, n_Daily___eq__, wS, wE, wEs, wT, wC, wO, wIt, wipeD, frzD, Cst.d, asAll, startD, wEq_int, wEq_str, wEq_bl, wBi_len, wBi_abs, wBi_min2, wBi_max2, see_val, see_fresh, see_brw, dat_val, dat_fresh, out_val, out_fresh, out_stt, tru_non, tru_bl, tru_int, tru_lst, tru_tup, tru_fresh, tru_brw, as_vv, as_vf, as_s, as_av, as_af, as_ab, as_bf, as_bb, as_bl, lv_lst, lv_fresh, lv_brw, int_int, len_lst, len_tup, len_frl, len_fresh, len_brw, rd_val, rd_own, rd_bor, rd_stt, it_lst, it_tup, it_frl, it_fresh, it_brw, bin_add, bin_sub, bin_mul, bin_fdiv, bin_mod, bin_pow, bin_str, cat_vv, cat_vf, cat_vb, rep_v, cat_fv, cat_ff, cat_fb, rep_f, cat_bv, cat_bf, cat_bb, rep_b, cmp_eq_vv, cmp_eq_fv, cmp_eq_vf, cmp_eq_ff, cmp_eq_fb, cmp_eq_bv, cmp_eq_vb, cmp_eq_bf, cmp_eq_bb, cmp_ne_vv, cmp_ne_fv, cmp_ne_vf, cmp_ne_ff, cmp_ne_fb, cmp_ne_bv, cmp_ne_vb, cmp_ne_bf, cmp_ne_bb, cmp_lt, cmp_le, cmp_gt, cmp_ge, cmp_is_non, cmp_isn_non, cmp_is_bl, cmp_isn_bl, isNon_non, isNon_int, isNon_str, isNon_lst, isNon_tup, isNon_frl, isNon_obj, isNon_bl, ix_tup, ix_v, ix_f, ix_b, tg_nm, tg_t2, tg_t3, asg_nm, asg_t2, asg_t3, nm_val, nm_fresh, nm_stt, sl_val, sl_brw, sl_stt, ty_int, ty_tt, ty_tv, ty_lv, ty_tf, ty_lf, ty_tb, ty_lb, ty_lt, slc_tup, slc_v, slc_f, slc_b, slc_str, ti, li, p2, it_sq, len_sq, rng_1, rng_2, it_sqR, len_sqR, rd_sqR, as_sqR, dailyD, h5, isaAny, D.clsOk, D.tyOf, h1, h2]
    refine wEq_ti ?_
    simpa [wS, wE, wEs, wT, wC, wO, wIt, wipeD, frzD, Cst.d, asAll, startD, wEq_int, wEq_str, wEq_bl, wBi_len, wBi_abs, wBi_min2, wBi_max2, see_val, see_fresh, see_brw, dat_val, dat_fresh, out_val, out_fresh, out_stt, tru_non, tru_bl, tru_int, tru_lst, tru_tup, tru_fresh, tru_brw, as_vv, as_vf, as_s, as_av, as_af, as_ab, as_bf, as_bb, as_bl, lv_lst, lv_fresh, lv_brw, int_int, len_lst, len_tup, len_frl, len_fresh, len_brw, rd_val, rd_own, rd_bor, rd_stt, it_lst, it_tup, it_frl, it_fresh, it_brw, bin_add, bin_sub, bin_mul, bin_fdiv, bin_mod, bin_pow, bin_str, cat_vv, cat_vf, cat_vb, rep_v, cat_fv, cat_ff, cat_fb, rep_f, cat_bv, cat_bf, cat_bb, rep_b, cmp_eq_vv, cmp_eq_fv, cmp_eq_vf, cmp_eq_ff, cmp_eq_fb, cmp_eq_bv, cmp_eq_vb, cmp_eq_bf, cmp_eq_bb, cmp_ne_vv, cmp_ne_fv, cmp_ne_vf, cmp_ne_ff, cmp_ne_fb, cmp_ne_bv, cmp_ne_vb, cmp_ne_bf, cmp_ne_bb, cmp_lt, cmp_le, cmp_gt, cmp_ge, cmp_is_non, cmp_isn_non, cmp_is_bl, cmp_isn_bl, isNon_non, isNon_int, isNon_str, isNon_lst, isNon_tup, isNon_frl, isNon_obj, isNon_bl, ix_tup, ix_v, ix_f, ix_b, tg_nm, tg_t2, tg_t3, asg_nm, asg_t2, asg_t3, nm_val, nm_fresh, nm_stt, sl_val, sl_brw, sl_stt, ty_int, ty_tt, ty_tv, ty_lv, ty_tf, ty_lf, ty_tb, ty_lb, ty_lt, slc_tup, slc_v, slc_f, slc_b, slc_str, ti, li, p2, it_sq, len_sq, rng_1, rng_2, it_sqR, len_sqR, rd_sqR, as_sqR] using hP
  | inr ys =>
    simp [ir_Daily___eq__, n_Daily___eq__, wS, wE, wEs, wT, wC, wO, wIt, wipeD, frzD, Cst.d, asAll, startD, wEq_int, wEq_str, wEq_bl, wBi_len, wBi_abs, wBi_min2, wBi_max2, see_val, see_fresh, see_brw, dat_val, dat_fresh, out_val, out_fresh, out_stt, tru_non, tru_bl, tru_int, tru_lst, tru_tup, tru_fresh, tru_brw, as_vv, as_vf, as_s, as_av, as_af, as_ab, as_bf, as_bb, as_bl, lv_lst, lv_fresh, lv_brw, int_int, len_lst, len_tup, len_frl, len_fresh, len_brw, rd_val, rd_own, rd_bor, rd_stt, it_lst, it_tup, it_frl, it_fresh, it_brw, bin_add, bin_sub, bin_mul, bin_fdiv, bin_mod, bin_pow, bin_str, cat_vv, cat_vf, cat_vb, rep_v, cat_fv, cat_ff, cat_fb, rep_f, cat_bv, cat_bf, cat_bb, rep_b, cmp_eq_vv, cmp_eq_fv, cmp_eq_vf, cmp_eq_ff, cmp_eq_fb, cmp_eq_bv, cmp_eq_vb, cmp_eq_bf, cmp_eq_bb, cmp_ne_vv, cmp_ne_fv, cmp_ne_vf, cmp_ne_ff, cmp_ne_fb, cmp_ne_bv, cmp_ne_vb, cmp_ne_bf, cmp_ne_bb, cmp_lt, cmp_le, cmp_gt, cmp_ge, cmp_is_non, cmp_isn_non, cmp_is_bl, cmp_isn_bl, isNon_non, isNon_int, isNon_str, isNon_lst, isNon_tup, isNon_frl, isNon_obj, isNon_bl, ix_tup, ix_v, ix_f, ix_b, tg_nm, tg_t2, tg_t3, asg_nm, asg_t2, asg_t3, nm_val, nm_fresh, nm_stt, sl_val, sl_brw, sl_stt, ty_int, ty_tt, ty_tv, ty_lv, ty_tf, ty_lf, ty_tb, ty_lb, ty_lt, slc_tup, slc_v, slc_f, slc_b, slc_str, ti, li, p2, it_sq, len_sq, rng_1, rng_2, it_sqR, len_sqR, rd_sqR, as_sqR, dailyD, h5, isaAny, D.clsOk, D.tyOf, h3, h2]
    exact hP
theorem d_mul_keeps (h5 : C.fld "Daily" "own_ends" = true) (h1 : KnM C "Daily" "need_like" fsDLike 0) (h2 : KnF C "led_on" fsLedOn 0) (h3 : KnF C "daily_by" fsDailyBy 0) : Keeps C ir_Daily___mul__ n_Daily___mul__ ["self", "other"] fsDMul := by
  refine keeps_of fun a P X hd hP => ⟨rfl, ?_⟩
  have hP := hP _ rfl
  obtain ⟨xs, ys⟩ := a
  obtain ⟨⟨⟨k1, k2⟩, k3⟩, k4⟩ := hd
  simp only at k1 k2 k3 k4
  simp [ir_Daily___mul__, n_Daily___mul__, wS, wE, wEs, wT, wC, wO, wIt, wipeD, frzD, Cst.d, asAll, startD, wEq_int, wEq_str, wEq_bl, wBi_len, wBi_abs, wBi_min2, wBi_max2, see_val, see_fresh, see_brw, dat_val, dat_fresh, out_val, out_fresh, out_stt, tru_non, tru_bl, tru_int, tru_lst, tru_tup, tru_fresh, tru_brw, as_vv, as_vf, as_s, as_av, as_af, as_ab, as_bf, as_bb, as_bl, lv_lst, lv_fresh, lv_brw, int_int, len_lst, len_tup, len_frl, len_fresh, len_brw, rd_val, rd_own, rd_bor, rd_stt, it_lst, it_tup, it_frl, it_fresh, it_brw, bin_add, bin_sub, bin_mul, bin_fdiv, bin_mod, bin_pow, bin_str, cat_vv, cat_vf, cat_vb, rep_v, cat_fv, cat_ff, cat_fb, rep_f, cat_bv, cat_bf, cat_bb, rep_b, cmp_eq_vv, cmp_eq_fv, cmp_eq_vf, cmp_eq_ff, cmp_eq_fb, cmp_eq_bv, cmp_eq_vb, cmp_eq_bf, cmp_eq_bb, cmp_ne_vv, cmp_ne_fv, cmp_ne_vf, cmp_ne_ff, cmp_ne_fb, cmp_ne_bv, cmp_ne_vb, cmp_ne_bf, cmp_ne_bb, cmp_lt, cmp_le, cmp_gt, cmp_ge, cmp_is_non, cmp_isn_non, cmp_is_bl, cmp_isn_bl, isNon_non, isNon_int, isNon_str, isNon_lst, isNon_tup, isNon_frl, isNon_obj, isNon_bl, ix_tup, ix_v, ix_f, ix_b, tg_nm, tg_t2, tg_t3, asg_nm, asg_t2, asg_t3, nm_val, nm_fresh, nm_stt, sl_val, sl_brw, sl_stt, ty_int, ty_tt, ty_tv, ty_lv, ty_tf, ty_lf, ty_tb, ty_lb, ty_lt, slc_tup, slc_v, slc_f, slc_b, slc_str, ti, li, p2, it_sq, len_sq, rng_1, rng_2, it_sqR, len_sqR, rd_sqR, as_sqR, dailyD, h5, h1.1, h2.1, h2.2, h3.1, costE, no_like]
  refine wcall_of (α := List Int × List Int) (xs, ys) rfl ⟨⟨k1, k2⟩, k3⟩ ?_
  rintro r rfl
  simp [wS, wE, wEs, wT, wC, wO, wIt, wipeD, frzD, Cst.d, asAll, startD, wEq_int, wEq_str, wEq_bl, wBi_len, wBi_abs, wBi_min2, wBi_max2, see_val, see_fresh, see_brw, dat_val, dat_fresh, out_val, out_fresh, out_stt, tru_non, tru_bl, tru_int, tru_lst, tru_tup, tru_fresh, tru_brw, as_vv, as_vf, as_s, as_av, as_af, as_ab, as_bf, as_bb, as_bl, lv_lst, lv_fresh, lv_brw, int_int, len_lst, len_tup, len_frl, len_fresh, len_brw, rd_val, rd_own, rd_bor, rd_stt, it_lst, it_tup, it_frl, it_fresh, it_brw, bin_add, bin_sub, bin_mul, bin_fdiv, bin_mod, bin_pow, bin_str, cat_vv, cat_vf, cat_vb, rep_v, cat_fv, cat_ff, cat_fb, rep_f, cat_bv, cat_bf, cat_bb, rep_b, cmp_eq_vv, cmp_eq_fv, cmp_eq_vf, cmp_eq_ff, cmp_eq_fb, cmp_eq_bv, cmp_eq_vb, cmp_eq_bf, cmp_eq_bb, cmp_ne_vv, cmp_ne_fv, cmp_ne_vf, cmp_ne_ff, cmp_ne_fb, cmp_ne_bv, cmp_ne_vb, cmp_ne_bf, cmp_ne_bb, cmp_lt, cmp_le, cmp_gt, cmp_ge, cmp_is_non, cmp_isn_non, cmp_is_bl, cmp_isn_bl, isNon_non, isNon_int, isNon_str, isNon_lst, isNon_tup, isNon_frl, isNon_obj, isNon_bl, ix_tup, ix_v, ix_f, ix_b, tg_nm, tg_t2, tg_t3, asg_nm, asg_t2, asg_t3, nm_val, nm_fresh, nm_stt, sl_val, sl_brw, sl_stt, ty_int, ty_tt, ty_tv, ty_lv, ty_tf, ty_lf, ty_tb, ty_lb, ty_lt, slc_tup, slc_v, slc_f, slc_b, slc_str, ti, li, p2, it_sq, len_sq, rng_1, rng_2, it_sqR, len_sqR, rd_sqR, as_sqR, h5]
  refine ⟨size_big (by omega), ?_⟩
  refine walk_map (g := D.int) (f := fun e => .int (ledOn ys e)) (fun p hp acc k hk => ?_) ?_
  · refine wcall_of (α := List Int × Int) (ys, p) rfl ⟨by show 1 ≤ ys.length; omega, by show ys.length ≤ 60; omega⟩ ?_
    rintro r rfl
    simpa [wS, wE, wEs, wT, wC, wO, wIt, wipeD, frzD, Cst.d, asAll, startD, wEq_int, wEq_str, wEq_bl, wBi_len, wBi_abs, wBi_min2, wBi_max2, see_val, see_fresh, see_brw, dat_val, dat_fresh, out_val, out_fresh, out_stt, tru_non, tru_bl, tru_int, tru_lst, tru_tup, tru_fresh, tru_brw, as_vv, as_vf, as_s, as_av, as_af, as_ab, as_bf, as_bb, as_bl, lv_lst, lv_fresh, lv_brw, int_int, len_lst, len_tup, len_frl, len_fresh, len_brw, rd_val, rd_own, rd_bor, rd_stt, it_lst, it_tup, it_frl, it_fresh, it_brw, bin_add, bin_sub, bin_mul, bin_fdiv, bin_mod, bin_pow, bin_str, cat_vv, cat_vf, cat_vb, rep_v, cat_fv, cat_ff, cat_fb, rep_f, cat_bv, cat_bf, cat_bb, rep_b, cmp_eq_vv, cmp_eq_fv, cmp_eq_vf, cmp_eq_ff, cmp_eq_fb, cmp_eq_bv, cmp_eq_vb, cmp_eq_bf, cmp_eq_bb, cmp_ne_vv, cmp_ne_fv, cmp_ne_vf, cmp_ne_ff, cmp_ne_fb, cmp_ne_bv, cmp_ne_vb, cmp_ne_bf, cmp_ne_bb, cmp_lt, cmp_le, cmp_gt, cmp_ge, cmp_is_non, cmp_isn_non, cmp_is_bl, cmp_isn_bl, isNon_non, isNon_int, isNon_str, isNon_lst, isNon_tup, isNon_frl, isNon_obj, isNon_bl, ix_tup, ix_v, ix_f, ix_b, tg_nm, tg_t2, tg_t3, asg_nm, asg_t2, asg_t3, nm_val, nm_fresh, nm_stt, sl_val, sl_brw, sl_stt, ty_int, ty_tt, ty_tv, ty_lv, ty_tf, ty_lf, ty_tb, ty_lb, ty_lt, slc_tup, slc_v, slc_f, slc_b, slc_str, ti, li, p2, it_sq, len_sq, rng_1, rng_2, it_sqR, len_sqR, rd_sqR, as_sqR] using hk
  · refine wcall_of (α := Bool × List Int) (false, thenE xs ys) (by simp [wS, wE, wEs, wT, wC, wO, wIt, wipeD, frzD, Cst.d, asAll, startD, wEq_int, wEq_str, wEq_bl, wBi_len, wBi_abs, wBi_min2, wBi_max2, see_val, see_fresh, see_brw, dat_val, dat_fresh, out_val, out_fresh, out_stt, tru_non, tru_bl, tru_int, tru_lst, tru_tup, tru_fresh, tru_brw, as_vv, as_vf, as_s, as_av, as_af, as_ab, as_bf, as_bb, as_bl, lv_lst, lv_fresh, lv_brw, int_int, len_lst, len_tup, len_frl, len_fresh, len_brw, rd_val, rd_own, rd_bor, rd_stt, it_lst, it_tup, it_frl, it_fresh, it_brw, bin_add, bin_sub, bin_mul, bin_fdiv, bin_mod, bin_pow, bin_str, cat_vv, cat_vf, cat_vb, rep_v, cat_fv, cat_ff, cat_fb, rep_f, cat_bv, cat_bf, cat_bb, rep_b, cmp_eq_vv, cmp_eq_fv, cmp_eq_vf, cmp_eq_ff, cmp_eq_fb, cmp_eq_bv, cmp_eq_vb, cmp_eq_bf, cmp_eq_bb, cmp_ne_vv, cmp_ne_fv, cmp_ne_vf, cmp_ne_ff, cmp_ne_fb, cmp_ne_bv, cmp_ne_vb, cmp_ne_bf, cmp_ne_bb, cmp_lt, cmp_le, cmp_gt, cmp_ge, cmp_is_non, cmp_isn_non, cmp_is_bl, cmp_isn_bl, isNon_non, isNon_int, isNon_str, isNon_lst, isNon_tup, isNon_frl, isNon_obj, isNon_bl, ix_tup, ix_v, ix_f, ix_b, tg_nm, tg_t2, tg_t3, asg_nm, asg_t2, asg_t3, nm_val, nm_fresh, nm_stt, sl_val, sl_brw, sl_stt, ty_int, ty_tt, ty_tv, ty_lv, ty_tf, ty_lf, ty_tb, ty_lb, ty_lt, slc_tup, slc_v, slc_f, slc_b, slc_str, ti, li, p2, it_sq, len_sq, rng_1, rng_2, it_sqR, len_sqR, rd_sqR, as_sqR, sq, thenE, Function.comp_def]) k4 ?_
    rintro r rfl
    refine ⟨rfl, ?_⟩
    have e : (thenE xs ys).length = xs.length := by simp [thenE]
    simpa only [e] using hP
theorem d_or_keeps (h5 : C.fld "Daily" "own_ends" = true) (h1 : KnM C "Daily" "need_like" fsDLike 0) (h3 : KnF C "daily_by" fsDailyBy 0) : Keeps C ir_Daily___or__ n_Daily___or__ ["self", "other"] fsDOr := by
  refine keeps_of fun a P X hd hP => ⟨rfl, ?_⟩
  have hP := hP _ rfl
  obtain ⟨xs, ys⟩ := a
  obtain ⟨⟨⟨k1, k2⟩, k3⟩, k4⟩ := hd
  simp only at k1 k2 k3 k4
  simp [ir_Daily___or__, n_Daily___or__, wS, wE, wEs, wT, wC, wO, wIt, wipeD, frzD, Cst.d, asAll, startD, wEq_int, wEq_str, wEq_bl, wBi_len, wBi_abs, wBi_min2, wBi_max2, see_val, see_fresh, see_brw, dat_val, dat_fresh, out_val, out_fresh, out_stt, tru_non, tru_bl, tru_int, tru_lst, tru_tup, tru_fresh, tru_brw, as_vv, as_vf, as_s, as_av, as_af, as_ab, as_bf, as_bb, as_bl, lv_lst, lv_fresh, lv_brw, int_int, len_lst, len_tup, len_frl, len_fresh, len_brw, rd_val, rd_own, rd_bor, rd_stt, it_lst, it_tup, it_frl, it_fresh, it_brw, bin_add, bin_sub, bin_mul, bin_fdiv, bin_mod, bin_pow, bin_str, cat_vv, cat_vf, cat_vb, rep_v, cat_fv, cat_ff, cat_fb, rep_f, cat_bv, cat_bf, cat_bb, rep_b, cmp_eq_vv, cmp_eq_fv, cmp_eq_vf, cmp_eq_ff, cmp_eq_fb, cmp_eq_bv, cmp_eq_vb, cmp_eq_bf, cmp_eq_bb, cmp_ne_vv, cmp_ne_fv, cmp_ne_vf, cmp_ne_ff, cmp_ne_fb, cmp_ne_bv, cmp_ne_vb, cmp_ne_bf, cmp_ne_bb, cmp_lt, cmp_le, cmp_gt, cmp_ge, cmp_is_non, cmp_isn_non, cmp_is_bl, cmp_isn_bl, isNon_non, isNon_int, isNon_str, isNon_lst, isNon_tup, isNon_frl, isNon_obj, isNon_bl, ix_tup, ix_v, ix_f, ix_b, tg_nm, tg_t2, tg_t3, asg_nm, asg_t2, asg_t3, nm_val, nm_fresh, nm_stt, sl_val, sl_brw, sl_stt, ty_int, ty_tt, ty_tv, ty_lv, ty_tf, ty_lf, ty_tb, ty_lb, ty_lt, slc_tup, slc_v, slc_f, slc_b, slc_str, ti, li, p2, it_sq, len_sq, rng_1, rng_2, it_sqR, len_sqR, rd_sqR, as_sqR, dailyD, h5, h1.1, h3.1, costE, no_like]
  refine wcall_of (α := List Int × List Int) (xs, ys) rfl ⟨⟨k1, k2⟩, k3⟩ ?_
  rintro r rfl
  simp [wS, wE, wEs, wT, wC, wO, wIt, wipeD, frzD, Cst.d, asAll, startD, wEq_int, wEq_str, wEq_bl, wBi_len, wBi_abs, wBi_min2, wBi_max2, see_val, see_fresh, see_brw, dat_val, dat_fresh, out_val, out_fresh, out_stt, tru_non, tru_bl, tru_int, tru_lst, tru_tup, tru_fresh, tru_brw, as_vv, as_vf, as_s, as_av, as_af, as_ab, as_bf, as_bb, as_bl, lv_lst, lv_fresh, lv_brw, int_int, len_lst, len_tup, len_frl, len_fresh, len_brw, rd_val, rd_own, rd_bor, rd_stt, it_lst, it_tup, it_frl, it_fresh, it_brw, bin_add, bin_sub, bin_mul, bin_fdiv, bin_mod, bin_pow, bin_str, cat_vv, cat_vf, cat_vb, rep_v, cat_fv, cat_ff, cat_fb, rep_f, cat_bv, cat_bf, cat_bb, rep_b, cmp_eq_vv, cmp_eq_fv, cmp_eq_vf, cmp_eq_ff, cmp_eq_fb, cmp_eq_bv, cmp_eq_vb, cmp_eq_bf, cmp_eq_bb, cmp_ne_vv, cmp_ne_fv, cmp_ne_vf, cmp_ne_ff, cmp_ne_fb, cmp_ne_bv, cmp_ne_vb, cmp_ne_bf, cmp_ne_bb, cmp_lt, cmp_le, cmp_gt, cmp_ge, cmp_is_non, cmp_isn_non, cmp_is_bl, cmp_isn_bl, isNon_non, isNon_int, isNon_str, isNon_lst, isNon_tup, isNon_frl, isNon_obj, isNon_bl, ix_tup, ix_v, ix_f, ix_b, tg_nm, tg_t2, tg_t3, asg_nm, asg_t2, asg_t3, nm_val, nm_fresh, nm_stt, sl_val, sl_brw, sl_stt, ty_int, ty_tt, ty_tv, ty_lv, ty_tf, ty_lf, ty_tb, ty_lb, ty_lt, slc_tup, slc_v, slc_f, slc_b, slc_str, ti, li, p2, it_sq, len_sq, rng_1, rng_2, it_sqR, len_sqR, rd_sqR, as_sqR, h5, zipD_ints]
  refine ⟨size_big (by omega), ?_⟩
  refine walk_map (g := p2) (f := fun p => .int (min p.1 p.2)) (fun p hp acc k hk => ?_) ?_
  · simpa [wS, wE, wEs, wT, wC, wO, wIt, wipeD, frzD, Cst.d, asAll, startD, wEq_int, wEq_str, wEq_bl, wBi_len, wBi_abs, wBi_min2, wBi_max2, see_val, see_fresh, see_brw, dat_val, dat_fresh, out_val, out_fresh, out_stt, tru_non, tru_bl, tru_int, tru_lst, tru_tup, tru_fresh, tru_brw, as_vv, as_vf, as_s, as_av, as_af, as_ab, as_bf, as_bb, as_bl, lv_lst, lv_fresh, lv_brw, int_int, len_lst, len_tup, len_frl, len_fresh, len_brw, rd_val, rd_own, rd_bor, rd_stt, it_lst, it_tup, it_frl, it_fresh, it_brw, bin_add, bin_sub, bin_mul, bin_fdiv, bin_mod, bin_pow, bin_str, cat_vv, cat_vf, cat_vb, rep_v, cat_fv, cat_ff, cat_fb, rep_f, cat_bv, cat_bf, cat_bb, rep_b, cmp_eq_vv, cmp_eq_fv, cmp_eq_vf, cmp_eq_ff, cmp_eq_fb, cmp_eq_bv, cmp_eq_vb, cmp_eq_bf, cmp_eq_bb, cmp_ne_vv, cmp_ne_fv, cmp_ne_vf, cmp_ne_ff, cmp_ne_fb, cmp_ne_bv, cmp_ne_vb, cmp_ne_bf, cmp_ne_bb, cmp_lt, cmp_le, cmp_gt, cmp_ge, cmp_is_non, cmp_isn_non, cmp_is_bl, cmp_isn_bl, isNon_non, isNon_int, isNon_str, isNon_lst, isNon_tup, isNon_frl, isNon_obj, isNon_bl, ix_tup, ix_v, ix_f, ix_b, tg_nm, tg_t2, tg_t3, asg_nm, asg_t2, asg_t3, nm_val, nm_fresh, nm_stt, sl_val, sl_brw, sl_stt, ty_int, ty_tt, ty_tv, ty_lv, ty_tf, ty_lf, ty_tb, ty_lb, ty_lt, slc_tup, slc_v, slc_f, slc_b, slc_str, ti, li, p2, it_sq, len_sq, rng_1, rng_2, it_sqR, len_sqR, rd_sqR, as_sqR] using hk
  · refine wcall_of (α := Bool × List Int) (false, minE xs ys) (by simp [wS, wE, wEs, wT, wC, wO, wIt, wipeD, frzD, Cst.d, asAll, startD, wEq_int, wEq_str, wEq_bl, wBi_len, wBi_abs, wBi_min2, wBi_max2, see_val, see_fresh, see_brw, dat_val, dat_fresh, out_val, out_fresh, out_stt, tru_non, tru_bl, tru_int, tru_lst, tru_tup, tru_fresh, tru_brw, as_vv, as_vf, as_s, as_av, as_af, as_ab, as_bf, as_bb, as_bl, lv_lst, lv_fresh, lv_brw, int_int, len_lst, len_tup, len_frl, len_fresh, len_brw, rd_val, rd_own, rd_bor, rd_stt, it_lst, it_tup, it_frl, it_fresh, it_brw, bin_add, bin_sub, bin_mul, bin_fdiv, bin_mod, bin_pow, bin_str, cat_vv, cat_vf, cat_vb, rep_v, cat_fv, cat_ff, cat_fb, rep_f, cat_bv, cat_bf, cat_bb, rep_b, cmp_eq_vv, cmp_eq_fv, cmp_eq_vf, cmp_eq_ff, cmp_eq_fb, cmp_eq_bv, cmp_eq_vb, cmp_eq_bf, cmp_eq_bb, cmp_ne_vv, cmp_ne_fv, cmp_ne_vf, cmp_ne_ff, cmp_ne_fb, cmp_ne_bv, cmp_ne_vb, cmp_ne_bf, cmp_ne_bb, cmp_lt, cmp_le, cmp_gt, cmp_ge, cmp_is_non, cmp_isn_non, cmp_is_bl, cmp_isn_bl, isNon_non, isNon_int, isNon_str, isNon_lst, isNon_tup, isNon_frl, isNon_obj, isNon_bl, ix_tup, ix_v, ix_f, ix_b, tg_nm, tg_t2, tg_t3, asg_nm, asg_t2, asg_t3, nm_val, nm_fresh, nm_stt, sl_val, sl_brw, sl_stt, ty_int, ty_tt, ty_tv, ty_lv, ty_tf, ty_lf, ty_tb, ty_lb, ty_lt, slc_tup, slc_v, slc_f, slc_b, slc_str, ti, li, p2, it_sq, len_sq, rng_1, rng_2, it_sqR, len_sqR, rd_sqR, as_sqR, sq, minE, Function.comp_def]) k4 ?_
    rintro r rfl
    refine ⟨rfl, ?_⟩
    have e : (minE xs ys).length = xs.length := by simp [minE, k3]
    simpa only [e] using hP
theorem d_and_keeps (h5 : C.fld "Daily" "own_ends" = true) (h1 : KnM C "Daily" "need_like" fsDLike 0) (h3 : KnF C "daily_by" fsDailyBy 0) : Keeps C ir_Daily___and__ n_Daily___and__ ["self", "other"] fsDAnd := by
  refine keeps_of fun a P X hd hP => ⟨rfl, ?_⟩
  have hP := hP _ rfl
  obtain ⟨xs, ys⟩ := a
  obtain ⟨⟨⟨k1, k2⟩, k3⟩, k4⟩ := hd
  simp only at k1 k2 k3 k4
  simp [ir_Daily___and__, n_Daily___and__, wS, wE, wEs, wT, wC, wO, wIt, wipeD, frzD, Cst.d, asAll, startD, wEq_int, wEq_str, wEq_bl, wBi_len, wBi_abs, wBi_min2, wBi_max2, see_val, see_fresh, see_brw, dat_val, dat_fresh, out_val, out_fresh, out_stt, tru_non, tru_bl, tru_int, tru_lst, tru_tup, tru_fresh, tru_brw, as_vv, as_vf, as_s, as_av, as_af, as_ab, as_bf, as_bb, as_bl, lv_lst, lv_fresh, lv_brw, int_int, len_lst, len_tup, len_frl, len_fresh, len_brw, rd_val, rd_own, rd_bor, rd_stt, it_lst, it_tup, it_frl, it_fresh, it_brw, bin_add, bin_sub, bin_mul, bin_fdiv, bin_mod, bin_pow, bin_str, cat_vv, cat_vf, cat_vb, rep_v, cat_fv, cat_ff, cat_fb, rep_f, cat_bv, cat_bf, cat_bb, rep_b, cmp_eq_vv, cmp_eq_fv, cmp_eq_vf, cmp_eq_ff, cmp_eq_fb, cmp_eq_bv, cmp_eq_vb, cmp_eq_bf, cmp_eq_bb, cmp_ne_vv, cmp_ne_fv, cmp_ne_vf, cmp_ne_ff, cmp_ne_fb, cmp_ne_bv, cmp_ne_vb, cmp_ne_bf, cmp_ne_bb, cmp_lt, cmp_le, cmp_gt, cmp_ge, cmp_is_non, cmp_isn_non, cmp_is_bl, cmp_isn_bl, isNon_non, isNon_int, isNon_str, isNon_lst, isNon_tup, isNon_frl, isNon_obj, isNon_bl, ix_tup, ix_v, ix_f, ix_b, tg_nm, tg_t2, tg_t3, asg_nm, asg_t2, asg_t3, nm_val, nm_fresh, nm_stt, sl_val, sl_brw, sl_stt, ty_int, ty_tt, ty_tv, ty_lv, ty_tf, ty_lf, ty_tb, ty_lb, ty_lt, slc_tup, slc_v, slc_f, slc_b, slc_str, ti, li, p2, it_sq, len_sq, rng_1, rng_2, it_sqR, len_sqR, rd_sqR, as_sqR, dailyD, h5, h1.1, h3.1, costE, no_like]
  refine wcall_of (α := List Int × List Int) (xs, ys) rfl ⟨⟨k1, k2⟩, k3⟩ ?_
  rintro r rfl
  simp [wS, wE, wEs, wT, wC, wO, wIt, wipeD, frzD, Cst.d, asAll, startD, wEq_int, wEq_str, wEq_bl, wBi_len, wBi_abs, wBi_min2, wBi_max2, see_val, see_fresh, see_brw, dat_val, dat_fresh, out_val, out_fresh, out_stt, tru_non, tru_bl, tru_int, tru_lst, tru_tup, tru_fresh, tru_brw, as_vv, as_vf, as_s, as_av, as_af, as_ab, as_bf, as_bb, as_bl, lv_lst, lv_fresh, lv_brw, int_int, len_lst, len_tup, len_frl, len_fresh, len_brw, rd_val, rd_own, rd_bor, rd_stt, it_lst, it_tup, it_frl, it_fresh, it_brw, bin_add, bin_sub, bin_mul, bin_fdiv, bin_mod, bin_pow, bin_str, cat_vv, cat_vf, cat_vb, rep_v, cat_fv, cat_ff, cat_fb, rep_f, cat_bv, cat_bf, cat_bb, rep_b, cmp_eq_vv, cmp_eq_fv, cmp_eq_vf, cmp_eq_ff, cmp_eq_fb, cmp_eq_bv, cmp_eq_vb, cmp_eq_bf, cmp_eq_bb, cmp_ne_vv, cmp_ne_fv, cmp_ne_vf, cmp_ne_ff, cmp_ne_fb, cmp_ne_bv, cmp_ne_vb, cmp_ne_bf, cmp_ne_bb, cmp_lt, cmp_le, cmp_gt, cmp_ge, cmp_is_non, cmp_isn_non, cmp_is_bl, cmp_isn_bl, isNon_non, isNon_int, isNon_str, isNon_lst, isNon_tup, isNon_frl, isNon_obj, isNon_bl, ix_tup, ix_v, ix_f, ix_b, tg_nm, tg_t2, tg_t3, asg_nm, asg_t2, asg_t3, nm_val, nm_fresh, nm_stt, sl_val, sl_brw, sl_stt, ty_int, ty_tt, ty_tv, ty_lv, ty_tf, ty_lf, ty_tb, ty_lb, ty_lt, slc_tup, slc_v, slc_f, slc_b, slc_str, ti, li, p2, it_sq, len_sq, rng_1, rng_2, it_sqR, len_sqR, rd_sqR, as_sqR, h5, zipD_ints]
  refine ⟨size_big (by omega), ?_⟩
  refine walk_map (g := p2) (f := fun p => .int (max p.1 p.2)) (fun p hp acc k hk => ?_) ?_
  · simpa [wS, wE, wEs, wT, wC, wO, wIt, wipeD, frzD, Cst.d, asAll, startD, wEq_int, wEq_str, wEq_bl, wBi_len, wBi_abs, wBi_min2, wBi_max2, see_val, see_fresh, see_brw, dat_val, dat_fresh, out_val, out_fresh, out_stt, tru_non, tru_bl, tru_int, tru_lst, tru_tup, tru_fresh, tru_brw, as_vv, as_vf, as_s, as_av, as_af, as_ab, as_bf, as_bb, as_bl, lv_lst, lv_fresh, lv_brw, int_int, len_lst, len_tup, len_frl, len_fresh, len_brw, rd_val, rd_own, rd_bor, rd_stt, it_lst, it_tup, it_frl, it_fresh, it_brw, bin_add, bin_sub, bin_mul, bin_fdiv, bin_mod, bin_pow, bin_str, cat_vv, cat_vf, cat_vb, rep_v, cat_fv, cat_ff, cat_fb, rep_f, cat_bv, cat_bf, cat_bb, rep_b, cmp_eq_vv, cmp_eq_fv, cmp_eq_vf, cmp_eq_ff, cmp_eq_fb, cmp_eq_bv, cmp_eq_vb, cmp_eq_bf, cmp_eq_bb, cmp_ne_vv, cmp_ne_fv, cmp_ne_vf, cmp_ne_ff, cmp_ne_fb, cmp_ne_bv, cmp_ne_vb, cmp_ne_bf, cmp_ne_bb, cmp_lt, cmp_le, cmp_gt, cmp_ge, cmp_is_non, cmp_isn_non, cmp_is_bl, cmp_isn_bl, isNon_non, isNon_int, isNon_str, isNon_lst, isNon_tup, isNon_frl, isNon_obj, isNon_bl, ix_tup, ix_v, ix_f, ix_b, tg_nm, tg_t2, tg_t3, asg_nm, asg_t2, asg_t3, nm_val, nm_fresh, nm_stt, sl_val, sl_brw, sl_stt, ty_int, ty_tt, ty_tv, ty_lv, ty_tf, ty_lf, ty_tb, ty_lb, ty_lt, slc_tup, slc_v, slc_f, slc_b, slc_str, ti, li, p2, it_sq, len_sq, rng_1, rng_2, it_sqR, len_sqR, rd_sqR, as_sqR] using hk
  · refine wcall_of (α := Bool × List Int) (false, maxE xs ys) (by simp [wS, wE, wEs, wT, wC, wO, wIt, wipeD, frzD, Cst.d, asAll, startD, wEq_int, wEq_str, wEq_bl, wBi_len, wBi_abs, wBi_min2, wBi_max2, see_val, see_fresh, see_brw, dat_val, dat_fresh, out_val, out_fresh, out_stt, tru_non, tru_bl, tru_int, tru_lst, tru_tup, tru_fresh, tru_brw, as_vv, as_vf, as_s, as_av, as_af, as_ab, as_bf, as_bb, as_bl, lv_lst, lv_fresh, lv_brw, int_int, len_lst, len_tup, len_frl, len_fresh, len_brw, rd_val, rd_own, rd_bor, rd_stt, it_lst, it_tup, it_frl, it_fresh, it_brw, bin_add, bin_sub, bin_mul, bin_fdiv, bin_mod, bin_pow, bin_str, cat_vv, cat_vf, cat_vb, rep_v, cat_fv, cat_ff, cat_fb, rep_f, cat_bv, cat_bf, cat_bb, rep_b, cmp_eq_vv, cmp_eq_fv, cmp_eq_vf, cmp_eq_ff, cmp_eq_fb, cmp_eq_bv, cmp_eq_vb, cmp_eq_bf, cmp_eq_bb, cmp_ne_vv, cmp_ne_fv, cmp_ne_vf, cmp_ne_ff, cmp_ne_fb, cmp_ne_bv, cmp_ne_vb, cmp_ne_bf, cmp_ne_bb, cmp_lt, cmp_le, cmp_gt, cmp_ge, cmp_is_non, cmp_isn_non, cmp_is_bl, cmp_isn_bl, isNon_non, isNon_int, isNon_str, isNon_lst, isNon_tup, isNon_frl, isNon_obj, isNon_bl, ix_tup, ix_v, ix_f, ix_b, tg_nm, tg_t2, tg_t3, asg_nm, asg_t2, asg_t3, nm_val, nm_fresh, nm_stt, sl_val, sl_brw, sl_stt, ty_int, ty_tt, ty_tv, ty_lv, ty_tf, ty_lf, ty_tb, ty_lb, ty_lt, slc_tup, slc_v, slc_f, slc_b, slc_str, ti, li, p2, it_sq, len_sq, rng_1, rng_2, it_sqR, len_sqR, rd_sqR, as_sqR, sq, maxE, Function.comp_def]) k4 ?_
    rintro r rfl
    refine ⟨rfl, ?_⟩
    have e : (maxE xs ys).length = xs.length := by simp [maxE, k3]
    simpa only [e] using hP
theorem d_inv_keeps (h5 : C.fld "Daily" "own_ends" = true) (h1 : KnP C "Daily" "length" fsDLen) (h2 : KnF C "led_back" fsLedBack 0) (h3 : KnF C "daily_by" fsDailyBy 0) : Keeps C ir_Daily___invert__ n_Daily___invert__ ["self"] fsDInv := by
  refine keeps_of fun xs P X hd hP => ⟨rfl, ?_⟩
  have hP := hP _ rfl
  obtain ⟨⟨k1, k2⟩, k4⟩ := hd
  have h1 : C.pr "Daily" "length" = some fsDLen := h1
  simp [ir_Daily___invert__, n_Daily___invert__, wS, wE, wEs, wT, wC, wO, wIt, wipeD, frzD, Cst.d, asAll, startD, wEq_int, wEq_str, wEq_bl, wBi_len, wBi_abs, wBi_min2, wBi_max2, see_val, see_fresh, see_brw, dat_val, dat_fresh, out_val, out_fresh, out_stt, tru_non, tru_bl, tru_int, tru_lst, tru_tup, tru_fresh, tru_brw, as_vv, as_vf, as_s, as_av, as_af, as_ab, as_bf, as_bb, as_bl, lv_lst, lv_fresh, lv_brw, int_int, len_lst, len_tup, len_frl, len_fresh, len_brw, rd_val, rd_own, rd_bor, rd_stt, it_lst, it_tup, it_frl, it_fresh, it_brw, bin_add, bin_sub, bin_mul, bin_fdiv, bin_mod, bin_pow, bin_str, cat_vv, cat_vf, cat_vb, rep_v, cat_fv, cat_ff, cat_fb, rep_f, cat_bv, cat_bf, cat_bb, rep_b, cmp_eq_vv, cmp_eq_fv, cmp_eq_vf, cmp_eq_ff, cmp_eq_fb, cmp_eq_bv, cmp_eq_vb, cmp_eq_bf, cmp_eq_bb, cmp_ne_vv, cmp_ne_fv, cmp_ne_vf, cmp_ne_ff, cmp_ne_fb, cmp_ne_bv, cmp_ne_vb, cmp_ne_bf, cmp_ne_bb, cmp_lt, cmp_le, cmp_gt, cmp_ge, cmp_is_non, cmp_isn_non, cmp_is_bl, cmp_isn_bl, isNon_non, isNon_int, isNon_str, isNon_lst, isNon_tup, isNon_frl, isNon_obj, isNon_bl, ix_tup, ix_v, ix_f, ix_b, tg_nm, tg_t2, tg_t3, asg_nm, asg_t2, asg_t3, nm_val, nm_fresh, nm_stt, sl_val, sl_brw, sl_stt, ty_int, ty_tt, ty_tv, ty_lv, ty_tf, ty_lf, ty_tb, ty_lb, ty_lt, slc_tup, slc_v, slc_f, slc_b, slc_str, ti, li, p2, it_sq, len_sq, rng_1, rng_2, it_sqR, len_sqR, rd_sqR, as_sqR, dailyD, h5, h1, h2.1, h2.2, h3.1, costE]
  refine wcall_of (α := List Int) xs rfl ⟨k1, k2⟩ ?_
  rintro r rfl
  simp [wS, wE, wEs, wT, wC, wO, wIt, wipeD, frzD, Cst.d, asAll, startD, wEq_int, wEq_str, wEq_bl, wBi_len, wBi_abs, wBi_min2, wBi_max2, see_val, see_fresh, see_brw, dat_val, dat_fresh, out_val, out_fresh, out_stt, tru_non, tru_bl, tru_int, tru_lst, tru_tup, tru_fresh, tru_brw, as_vv, as_vf, as_s, as_av, as_af, as_ab, as_bf, as_bb, as_bl, lv_lst, lv_fresh, lv_brw, int_int, len_lst, len_tup, len_frl, len_fresh, len_brw, rd_val, rd_own, rd_bor, rd_stt, it_lst, it_tup, it_frl, it_fresh, it_brw, bin_add, bin_sub, bin_mul, bin_fdiv, bin_mod, bin_pow, bin_str, cat_vv, cat_vf, cat_vb, rep_v, cat_fv, cat_ff, cat_fb, rep_f, cat_bv, cat_bf, cat_bb, rep_b, cmp_eq_vv, cmp_eq_fv, cmp_eq_vf, cmp_eq_ff, cmp_eq_fb, cmp_eq_bv, cmp_eq_vb, cmp_eq_bf, cmp_eq_bb, cmp_ne_vv, cmp_ne_fv, cmp_ne_vf, cmp_ne_ff, cmp_ne_fb, cmp_ne_bv, cmp_ne_vb, cmp_ne_bf, cmp_ne_bb, cmp_lt, cmp_le, cmp_gt, cmp_ge, cmp_is_non, cmp_isn_non, cmp_is_bl, cmp_isn_bl, isNon_non, isNon_int, isNon_str, isNon_lst, isNon_tup, isNon_frl, isNon_obj, isNon_bl, ix_tup, ix_v, ix_f, ix_b, tg_nm, tg_t2, tg_t3, asg_nm, asg_t2, asg_t3, nm_val, nm_fresh, nm_stt, sl_val, sl_brw, sl_stt, ty_int, ty_tt, ty_tv, ty_lv, ty_tf, ty_lf, ty_tb, ty_lb, ty_lt, slc_tup, slc_v, slc_f, slc_b, slc_str, ti, li, p2, it_sq, len_sq, rng_1, rng_2, it_sqR, len_sqR, rd_sqR, as_sqR, h5, rg_length]
  refine ⟨by omega, size_big (by omega), ?_⟩
  refine walk_map (g := D.int) (f := fun n => .int (0 - ledBack xs (0 - n))) (fun n hp acc k hk => ?_) ?_
  · simp [wS, wE, wEs, wT, wC, wO, wIt, wipeD, frzD, Cst.d, asAll, startD, wEq_int, wEq_str, wEq_bl, wBi_len, wBi_abs, wBi_min2, wBi_max2, see_val, see_fresh, see_brw, dat_val, dat_fresh, out_val, out_fresh, out_stt, tru_non, tru_bl, tru_int, tru_lst, tru_tup, tru_fresh, tru_brw, as_vv, as_vf, as_s, as_av, as_af, as_ab, as_bf, as_bb, as_bl, lv_lst, lv_fresh, lv_brw, int_int, len_lst, len_tup, len_frl, len_fresh, len_brw, rd_val, rd_own, rd_bor, rd_stt, it_lst, it_tup, it_frl, it_fresh, it_brw, bin_add, bin_sub, bin_mul, bin_fdiv, bin_mod, bin_pow, bin_str, cat_vv, cat_vf, cat_vb, rep_v, cat_fv, cat_ff, cat_fb, rep_f, cat_bv, cat_bf, cat_bb, rep_b, cmp_eq_vv, cmp_eq_fv, cmp_eq_vf, cmp_eq_ff, cmp_eq_fb, cmp_eq_bv, cmp_eq_vb, cmp_eq_bf, cmp_eq_bb, cmp_ne_vv, cmp_ne_fv, cmp_ne_vf, cmp_ne_ff, cmp_ne_fb, cmp_ne_bv, cmp_ne_vb, cmp_ne_bf, cmp_ne_bb, cmp_lt, cmp_le, cmp_gt, cmp_ge, cmp_is_non, cmp_isn_non, cmp_is_bl, cmp_isn_bl, isNon_non, isNon_int, isNon_str, isNon_lst, isNon_tup, isNon_frl, isNon_obj, isNon_bl, ix_tup, ix_v, ix_f, ix_b, tg_nm, tg_t2, tg_t3, asg_nm, asg_t2, asg_t3, nm_val, nm_fresh, nm_stt, sl_val, sl_brw, sl_stt, ty_int, ty_tt, ty_tv, ty_lv, ty_tf, ty_lf, ty_tb, ty_lb, ty_lt, slc_tup, slc_v, slc_f, slc_b, slc_str, ti, li, p2, it_sq, len_sq, rng_1, rng_2, it_sqR, len_sqR, rd_sqR, as_sqR, h5]
    refine wcall_of (α := List Int × Int) (xs, 0 - n) (by simp [wS, wE, wEs, wT, wC, wO, wIt, wipeD, frzD, Cst.d, asAll, startD, wEq_int, wEq_str, wEq_bl, wBi_len, wBi_abs, wBi_min2, wBi_max2, see_val, see_fresh, see_brw, dat_val, dat_fresh, out_val, out_fresh, out_stt, tru_non, tru_bl, tru_int, tru_lst, tru_tup, tru_fresh, tru_brw, as_vv, as_vf, as_s, as_av, as_af, as_ab, as_bf, as_bb, as_bl, lv_lst, lv_fresh, lv_brw, int_int, len_lst, len_tup, len_frl, len_fresh, len_brw, rd_val, rd_own, rd_bor, rd_stt, it_lst, it_tup, it_frl, it_fresh, it_brw, bin_add, bin_sub, bin_mul, bin_fdiv, bin_mod, bin_pow, bin_str, cat_vv, cat_vf, cat_vb, rep_v, cat_fv, cat_ff, cat_fb, rep_f, cat_bv, cat_bf, cat_bb, rep_b, cmp_eq_vv, cmp_eq_fv, cmp_eq_vf, cmp_eq_ff, cmp_eq_fb, cmp_eq_bv, cmp_eq_vb, cmp_eq_bf, cmp_eq_bb, cmp_ne_vv, cmp_ne_fv, cmp_ne_vf, cmp_ne_ff, cmp_ne_fb, cmp_ne_bv, cmp_ne_vb, cmp_ne_bf, cmp_ne_bb, cmp_lt, cmp_le, cmp_gt, cmp_ge, cmp_is_non, cmp_isn_non, cmp_is_bl, cmp_isn_bl, isNon_non, isNon_int, isNon_str, isNon_lst, isNon_tup, isNon_frl, isNon_obj, isNon_bl, ix_tup, ix_v, ix_f, ix_b, tg_nm, tg_t2, tg_t3, asg_nm, asg_t2, asg_t3, nm_val, nm_fresh, nm_stt, sl_val, sl_brw, sl_stt, ty_int, ty_tt, ty_tv, ty_lv, ty_tf, ty_lf, ty_tb, ty_lb, ty_lt, slc_tup, slc_v, slc_f, slc_b, slc_str, ti, li, p2, it_sq, len_sq, rng_1, rng_2, it_sqR, len_sqR, rd_sqR, as_sqR]) ⟨k1, k2⟩ ?_
    rintro r rfl
    simpa [wS, wE, wEs, wT, wC, wO, wIt, wipeD, frzD, Cst.d, asAll, startD, wEq_int, wEq_str, wEq_bl, wBi_len, wBi_abs, wBi_min2, wBi_max2, see_val, see_fresh, see_brw, dat_val, dat_fresh, out_val, out_fresh, out_stt, tru_non, tru_bl, tru_int, tru_lst, tru_tup, tru_fresh, tru_brw, as_vv, as_vf, as_s, as_av, as_af, as_ab, as_bf, as_bb, as_bl, lv_lst, lv_fresh, lv_brw, int_int, len_lst, len_tup, len_frl, len_fresh, len_brw, rd_val, rd_own, rd_bor, rd_stt, it_lst, it_tup, it_frl, it_fresh, it_brw, bin_add, bin_sub, bin_mul, bin_fdiv, bin_mod, bin_pow, bin_str, cat_vv, cat_vf, cat_vb, rep_v, cat_fv, cat_ff, cat_fb, rep_f, cat_bv, cat_bf, cat_bb, rep_b, cmp_eq_vv, cmp_eq_fv, cmp_eq_vf, cmp_eq_ff, cmp_eq_fb, cmp_eq_bv, cmp_eq_vb, cmp_eq_bf, cmp_eq_bb, cmp_ne_vv, cmp_ne_fv, cmp_ne_vf, cmp_ne_ff, cmp_ne_fb, cmp_ne_bv, cmp_ne_vb, cmp_ne_bf, cmp_ne_bb, cmp_lt, cmp_le, cmp_gt, cmp_ge, cmp_is_non, cmp_isn_non, cmp_is_bl, cmp_isn_bl, isNon_non, isNon_int, isNon_str, isNon_lst, isNon_tup, isNon_frl, isNon_obj, isNon_bl, ix_tup, ix_v, ix_f, ix_b, tg_nm, tg_t2, tg_t3, asg_nm, asg_t2, asg_t3, nm_val, nm_fresh, nm_stt, sl_val, sl_brw, sl_stt, ty_int, ty_tt, ty_tv, ty_lv, ty_tf, ty_lf, ty_tb, ty_lb, ty_lt, slc_tup, slc_v, slc_f, slc_b, slc_str, ti, li, p2, it_sq, len_sq, rng_1, rng_2, it_sqR, len_sqR, rd_sqR, as_sqR] using hk
  · refine wcall_of (α := Bool × List Int) (false, invE xs) (by simp [wS, wE, wEs, wT, wC, wO, wIt, wipeD, frzD, Cst.d, asAll, startD, wEq_int, wEq_str, wEq_bl, wBi_len, wBi_abs, wBi_min2, wBi_max2, see_val, see_fresh, see_brw, dat_val, dat_fresh, out_val, out_fresh, out_stt, tru_non, tru_bl, tru_int, tru_lst, tru_tup, tru_fresh, tru_brw, as_vv, as_vf, as_s, as_av, as_af, as_ab, as_bf, as_bb, as_bl, lv_lst, lv_fresh, lv_brw, int_int, len_lst, len_tup, len_frl, len_fresh, len_brw, rd_val, rd_own, rd_bor, rd_stt, it_lst, it_tup, it_frl, it_fresh, it_brw, bin_add, bin_sub, bin_mul, bin_fdiv, bin_mod, bin_pow, bin_str, cat_vv, cat_vf, cat_vb, rep_v, cat_fv, cat_ff, cat_fb, rep_f, cat_bv, cat_bf, cat_bb, rep_b, cmp_eq_vv, cmp_eq_fv, cmp_eq_vf, cmp_eq_ff, cmp_eq_fb, cmp_eq_bv, cmp_eq_vb, cmp_eq_bf, cmp_eq_bb, cmp_ne_vv, cmp_ne_fv, cmp_ne_vf, cmp_ne_ff, cmp_ne_fb, cmp_ne_bv, cmp_ne_vb, cmp_ne_bf, cmp_ne_bb, cmp_lt, cmp_le, cmp_gt, cmp_ge, cmp_is_non, cmp_isn_non, cmp_is_bl, cmp_isn_bl, isNon_non, isNon_int, isNon_str, isNon_lst, isNon_tup, isNon_frl, isNon_obj, isNon_bl, ix_tup, ix_v, ix_f, ix_b, tg_nm, tg_t2, tg_t3, asg_nm, asg_t2, asg_t3, nm_val, nm_fresh, nm_stt, sl_val, sl_brw, sl_stt, ty_int, ty_tt, ty_tv, ty_lv, ty_tf, ty_lf, ty_tb, ty_lb, ty_lt, slc_tup, slc_v, slc_f, slc_b, slc_str, ti, li, p2, it_sq, len_sq, rng_1, rng_2, it_sqR, len_sqR, rd_sqR, as_sqR, sq, invE, Function.comp_def]) k4 ?_
    rintro r rfl
    refine ⟨rfl, ?_⟩
    have e : (invE xs).length = xs.length := by simp [invE, rg_length]
    simpa only [e] using hP
theorem d_le_keeps (h5 : C.fld "Daily" "own_ends" = true) (h1 : KnM C "Daily" "need_like" fsDLike 0) : Keeps C ir_Daily___le__ n_Daily___le__ ["self", "other"] fsDLe := by
  refine keeps_of fun a P X hd hP => ⟨rfl, ?_⟩
  have hP := hP _ rfl
  obtain ⟨xs, ys⟩ := a
  obtain ⟨⟨k1, k2⟩, k3⟩ := hd
  simp only at k1 k2 k3
  simp [ir_Daily___le__, n_Daily___le__, wS, wE, wEs, wT, wC, wO, wIt, wipeD, frzD, Cst.d, asAll, startD, wEq_int, wEq_str, wEq_bl, wBi_len, wBi_abs, wBi_min2, wBi_max2, see_val, see_fresh, see_brw, dat_val, dat_fresh, out_val, out_fresh, out_stt, tru_non, tru_bl, tru_int, tru_lst, tru_tup, tru_fresh, tru_brw, as_vv, as_vf, as_s, as_av, as_af, as_ab, as_bf, as_bb, as_bl, lv_lst, lv_fresh, lv_brw, int_int, len_lst, len_tup, len_frl, len_fresh, len_brw, rd_val, rd_own, rd_bor, rd_stt, it_lst, it_tup, it_frl, it_fresh, it_brw, bin_add, bin_sub, bin_mul, bin_fdiv, bin_mod, bin_pow, bin_str, cat_vv, cat_vf, cat_vb, rep_v, cat_fv, cat_ff, cat_fb, rep_f, cat_bv, cat_bf, cat_bb, rep_b, cmp_eq_vv, cmp_eq_fv, cmp_eq_vf, cmp_eq_ff, cmp_eq_fb, cmp_eq_bv, cmp_eq_vb, cmp_eq_bf, cmp_eq_bb, cmp_ne_vv, cmp_ne_fv, cmp_ne_vf, cmp_ne_ff, cmp_ne_fb, cmp_ne_bv, cmp_ne_vb, cmp_ne_bf, cmp_ne_bb, cmp_lt, cmp_le, cmp_gt, cmp_ge, cmp_is_non, cmp_isn_non, cmp_is_bl, cmp_isn_bl, isNon_non, isNon_int, isNon_str, isNon_lst, isNon_tup, isNon_frl, isNon_obj, isNon_bl, ix_tup, ix_v, ix_f, ix_b, tg_nm, tg_t2, tg_t3, asg_nm, asg_t2, asg_t3, nm_val, nm_fresh, nm_stt, sl_val, sl_brw, sl_stt, ty_int, ty_tt, ty_tv, ty_lv, ty_tf, ty_lf, ty_tb, ty_lb, ty_lt, slc_tup, slc_v, slc_f, slc_b, slc_str, ti, li, p2, it_sq, len_sq, rng_1, rng_2, it_sqR, len_sqR, rd_sqR, as_sqR, dailyD, h5, h1.1, costE, no_like]
  refine wcall_of (α := List Int × List Int) (xs, ys) rfl ⟨⟨k1, k2⟩, k3⟩ ?_
  rintro r rfl
  simp [wS, wE, wEs, wT, wC, wO, wIt, wipeD, frzD, Cst.d, asAll, startD, wEq_int, wEq_str, wEq_bl, wBi_len, wBi_abs, wBi_min2, wBi_max2, see_val, see_fresh, see_brw, dat_val, dat_fresh, out_val, out_fresh, out_stt, tru_non, tru_bl, tru_int, tru_lst, tru_tup, tru_fresh, tru_brw, as_vv, as_vf, as_s, as_av, as_af, as_ab, as_bf, as_bb, as_bl, lv_lst, lv_fresh, lv_brw, int_int, len_lst, len_tup, len_frl, len_fresh, len_brw, rd_val, rd_own, rd_bor, rd_stt, it_lst, it_tup, it_frl, it_fresh, it_brw, bin_add, bin_sub, bin_mul, bin_fdiv, bin_mod, bin_pow, bin_str, cat_vv, cat_vf, cat_vb, rep_v, cat_fv, cat_ff, cat_fb, rep_f, cat_bv, cat_bf, cat_bb, rep_b, cmp_eq_vv, cmp_eq_fv, cmp_eq_vf, cmp_eq_ff, cmp_eq_fb, cmp_eq_bv, cmp_eq_vb, cmp_eq_bf, cmp_eq_bb, cmp_ne_vv, cmp_ne_fv, cmp_ne_vf, cmp_ne_ff, cmp_ne_fb, cmp_ne_bv, cmp_ne_vb, cmp_ne_bf, cmp_ne_bb, cmp_lt, cmp_le, cmp_gt, cmp_ge, cmp_is_non, cmp_isn_non, cmp_is_bl, cmp_isn_bl, isNon_non, isNon_int, isNon_str, isNon_lst, isNon_tup, isNon_frl, isNon_obj, isNon_bl, ix_tup, ix_v, ix_f, ix_b, tg_nm, tg_t2, tg_t3, asg_nm, asg_t2, asg_t3, nm_val, nm_fresh, nm_stt, sl_val, sl_brw, sl_stt, ty_int, ty_tt, ty_tv, ty_lv, ty_tf, ty_lf, ty_tb, ty_lb, ty_lt, slc_tup, slc_v, slc_f, slc_b, slc_str, ti, li, p2, it_sq, len_sq, rng_1, rng_2, it_sqR, len_sqR, rd_sqR, as_sqR, h5, zipD_ints]
  refine ⟨size_big (by omega), ?_⟩
  refine walk_map (g := p2) (f := fun p => .bl (decide (p.1 ≤ p.2))) (fun p hp acc k hk => ?_) ?_
  · simpa [wS, wE, wEs, wT, wC, wO, wIt, wipeD, frzD, Cst.d, asAll, startD, wEq_int, wEq_str, wEq_bl, wBi_len, wBi_abs, wBi_min2, wBi_max2, see_val, see_fresh, see_brw, dat_val, dat_fresh, out_val, out_fresh, out_stt, tru_non, tru_bl, tru_int, tru_lst, tru_tup, tru_fresh, tru_brw, as_vv, as_vf, as_s, as_av, as_af, as_ab, as_bf, as_bb, as_bl, lv_lst, lv_fresh, lv_brw, int_int, len_lst, len_tup, len_frl, len_fresh, len_brw, rd_val, rd_own, rd_bor, rd_stt, it_lst, it_tup, it_frl, it_fresh, it_brw, bin_add, bin_sub, bin_mul, bin_fdiv, bin_mod, bin_pow, bin_str, cat_vv, cat_vf, cat_vb, rep_v, cat_fv, cat_ff, cat_fb, rep_f, cat_bv, cat_bf, cat_bb, rep_b, cmp_eq_vv, cmp_eq_fv, cmp_eq_vf, cmp_eq_ff, cmp_eq_fb, cmp_eq_bv, cmp_eq_vb, cmp_eq_bf, cmp_eq_bb, cmp_ne_vv, cmp_ne_fv, cmp_ne_vf, cmp_ne_ff, cmp_ne_fb, cmp_ne_bv, cmp_ne_vb, cmp_ne_bf, cmp_ne_bb, cmp_lt, cmp_le, cmp_gt, cmp_ge, cmp_is_non, cmp_isn_non, cmp_is_bl, cmp_isn_bl, isNon_non, isNon_int, isNon_str, isNon_lst, isNon_tup, isNon_frl, isNon_obj, isNon_bl, ix_tup, ix_v, ix_f, ix_b, tg_nm, tg_t2, tg_t3, asg_nm, asg_t2, asg_t3, nm_val, nm_fresh, nm_stt, sl_val, sl_brw, sl_stt, ty_int, ty_tt, ty_tv, ty_lv, ty_tf, ty_lf, ty_tb, ty_lb, ty_lt, slc_tup, slc_v, slc_f, slc_b, slc_str, ti, li, p2, it_sq, len_sq, rng_1, rng_2, it_sqR, len_sqR, rd_sqR, as_sqR] using hk
  · refine wall_of (ns := (xs.zip ys).map fun (p : Int × Int) => decide (p.1 ≤ p.2)) (by simp [wS, wE, wEs, wT, wC, wO, wIt, wipeD, frzD, Cst.d, asAll, startD, wEq_int, wEq_str, wEq_bl, wBi_len, wBi_abs, wBi_min2, wBi_max2, see_val, see_fresh, see_brw, dat_val, dat_fresh, out_val, out_fresh, out_stt, tru_non, tru_bl, tru_int, tru_lst, tru_tup, tru_fresh, tru_brw, as_vv, as_vf, as_s, as_av, as_af, as_ab, as_bf, as_bb, as_bl, lv_lst, lv_fresh, lv_brw, int_int, len_lst, len_tup, len_frl, len_fresh, len_brw, rd_val, rd_own, rd_bor, rd_stt, it_lst, it_tup, it_frl, it_fresh, it_brw, bin_add, bin_sub, bin_mul, bin_fdiv, bin_mod, bin_pow, bin_str, cat_vv, cat_vf, cat_vb, rep_v, cat_fv, cat_ff, cat_fb, rep_f, cat_bv, cat_bf, cat_bb, rep_b, cmp_eq_vv, cmp_eq_fv, cmp_eq_vf, cmp_eq_ff, cmp_eq_fb, cmp_eq_bv, cmp_eq_vb, cmp_eq_bf, cmp_eq_bb, cmp_ne_vv, cmp_ne_fv, cmp_ne_vf, cmp_ne_ff, cmp_ne_fb, cmp_ne_bv, cmp_ne_vb, cmp_ne_bf, cmp_ne_bb, cmp_lt, cmp_le, cmp_gt, cmp_ge, cmp_is_non, cmp_isn_non, cmp_is_bl, cmp_isn_bl, isNon_non, isNon_int, isNon_str, isNon_lst, isNon_tup, isNon_frl, isNon_obj, isNon_bl, ix_tup, ix_v, ix_f, ix_b, tg_nm, tg_t2, tg_t3, asg_nm, asg_t2, asg_t3, nm_val, nm_fresh, nm_stt, sl_val, sl_brw, sl_stt, ty_int, ty_tt, ty_tv, ty_lv, ty_tf, ty_lf, ty_tb, ty_lb, ty_lt, slc_tup, slc_v, slc_f, slc_b, slc_str, ti, li, p2, it_sq, len_sq, rng_1, rng_2, it_sqR, len_sqR, rd_sqR, as_sqR, Function.comp_def]) ⟨rfl, hP⟩
end
end Dl

set_option Elab.async false
set_option linter.all false
set_option maxRecDepth 100000
set_option maxHeartbeats 4000000
/-! Dl: the laws' own small defs. -/
namespace Dl
open PySem PySem.Spec PyProof.Rows L2
def n_law_pick : List Str := ["state", "some"]
def ir_law_pick : St :=
(.seq (.ret (.idx (.var 1) (.call "_law_draw" (.cons (.var 0) (.cons (.bi "len" (.cons (.var 1) .nil)) .nil)))))
  .skip)
def n_law_says : List Str := ["told", "is_due"]
def ir_law_says : St :=
(.seq (.ret (.ite (.tr (.var 1)) (.cmp .is_ (.var 0) (.cst (.bl true))) (.cmp .is_ (.var 0) (.cst (.bl false)))))
  .skip)
def n_law_map : List Str := ["length", "rides", "found", "number", "some", "begin", "end", "rest"]
def ir_law_map : St :=
(.seq (.asg (.nm 2) (.lst .nil))
  (.seq (.for_ (.nm 3) (.itRng (.cons (.var 0) .nil)) 64 (.seq (.asg (.nm 4) (.lst .nil))
  (.seq (.for_ (.t2 (.nm 5) (.nm 6)) (.itV (.var 1)) 64 (.seq (.asg (.nm 7) (.bin .mod (.ty "int" (.cons (.var 5) .nil)) (.var 0)))
  (.seq (.frz 7)
  (.seq (.app 4 (.bin .add (.bin .add (.bin .sub (.var 6) (.var 5)) (.var 7)) (.ite (.cmp .ge (.var 7) (.var 3)) (eI 0) (.var 0))))
  .skip))))
  (.seq (.frz 4)
  (.seq (.app 2 (.bi "min" (.cons (.var 4) .nil)))
  .skip)))))
  (.seq (.retV 2)
  .skip)))
def n_law_go : List Str := ["ends", "number", "length"]
def ir_law_go : St :=
(.seq (.asg (.nm 2) (.bi "len" (.cons (.var 0) .nil)))
  (.seq (.ret (.bin .sub (.bin .add (.idx (.var 0) (.bin .mod (.ty "int" (.cons (.var 1) .nil)) (.var 2))) (.var 1)) (.bin .mod (.ty "int" (.cons (.var 1) .nil)) (.var 2))))
  .skip))
def n_law_some_length : List Str := ["state"]
def ir_law_some_length : St :=
(.seq (.ret (.call "_law_pick" (.cons (.var 0) (.cons (.lst (.cons (eI 1) (.cons (eI 2) (.cons (eI 3) (.cons (eI 4) (.cons (eI 5) (.cons (eI 6) (.cons (eI 7) (.cons (eI 8) (.cons (eI 9) (.cons (eI 10) (.cons (eI 12) (.cons (eI 15) (.cons (eI 60) (.cons (.bin .add (eI 1) (.call "_law_draw" (.cons (.var 0) (.cons (eI 30) .nil)))) .nil))))))))))))))) .nil))))
  .skip)
def n_law_some_rides : List Str := ["state", "length", "found", "lap", "way", "far", "shift", "begin", "number"]
def ir_law_some_rides : St :=
(.seq (.par 4 5 (.call "_law_draw" (.cons (.var 0) (.cons (eI 6) .nil))) (.bin .add (eI 1) (.call "_law_draw" (.cons (.var 0) (.cons (.bin .mul (eI 2) (.var 1)) .nil)))))
  (.seq (.frz 4)
  (.seq (.frz 5)
  (.seq (.ifs (.cmp .eq (.var 4) (eI 0)) (.seq (.asg (.nm 6) (.call "_law_draw" (.cons (.var 0) (.cons (.bin .add (.var 1) (eI 2)) .nil))))
  (.seq (.frz 6)
  (.seq (.ret (.comp (.tup (.cons (.var 8) (.cons (.bin .add (.var 8) (.var 6)) .nil))) (.nm 8) (.itRng (.cons (.var 1) .nil)) .nil [("number", 8)] 64))
  .skip))) .skip)
  (.seq (.asg (.nm 2) (.lst .nil))
  (.seq (.for_ (.nm 3) (.itRng (.cons (.bin .add (eI 1) (.call "_law_draw" (.cons (.var 0) (.cons (.bi "min" (.cons (eI 6) (.cons (.bin .add (.var 1) (eI 1)) .nil))) .nil)))) .nil)) 64 (.seq (.asg (.nm 7) (.bin .add (.call "_law_draw" (.cons (.var 0) (.cons (.var 1) .nil))) (.bin .mul (.var 1) (.bin .sub (.call "_law_draw" (.cons (.var 0) (.cons (eI 5) .nil))) (eI 2)))))
  (.seq (.frz 7)
  (.seq (.app 2 (.tup (.cons (.var 7) (.cons (.bin .add (.var 7) (.call "_law_draw" (.cons (.var 0) (.cons (.var 5) .nil)))) .nil))))
  .skip))))
  (.seq (.retV 2)
  .skip)))))))
def n_law_put : List Str := ["word", "one", "two", "end", "pair"]
def ir_law_put : St :=
(.seq (.ifs (.cmp .eq (.var 0) (eS "then")) (.seq (.ret (.comp (.call "_law_go" (.cons (.var 2) (.cons (.var 3) .nil))) (.nm 3) (.itV (.var 1)) .nil [("end", 3)] 64))
  .skip) .skip)
  (.seq (.ret (.ite (.cmp .eq (.var 0) (eS "quicker")) (.comp (.bi "min" (.cons (.var 4) .nil)) (.nm 4) (.itZipN (.var 1) (.var 2)) .nil [("pair", 4)] 64) (.comp (.bi "max" (.cons (.var 4) .nil)) (.nm 4) (.itZipN (.var 1) (.var 2)) .nil [("pair", 4)] 64)))
  .skip))

theorem draw_call {room : Int} {P : R → Prop} {X : XD → Prop} (h1 : 0 < room) (h2 : room < 2 ^ 30) (h : ∀ d : Int, 0 ≤ d → d < room → P (.val (.int d))) : wCall fsDraw [.stt, .val (.int room)] P X := ⟨room, rfl, h1, h2, h⟩
def fsPick : FS := fsD [.s, .v] (fun a : Bool × List D => [.stt, .val (sq a.1 a.2)]) (fun a => a.2 ≠ [] ∧ a.2.length ≤ 1000000) (fun a r => ∃ x ∈ a.2, r = .val x)
def fsSays : FS := fsD [.v, .v] (fun a : Bool × Bool => [.val (.bl a.1), .val (.bl a.2)]) (fun _ => True) (fun a r => r = .val (.bl (a.1 == a.2)))
def lawMap (l : Nat) (rs : List (Int × Int)) : List Int := (rg l).map fun (n : Int) => mn (rs.map fun (p : Int × Int) => p.2 - p.1 + p.1 % (l : Int) + (if n ≤ p.1 % (l : Int) then 0 else (l : Int)))
def fsMap : FS := fsD [.v, .v] (fun a : Nat × Bool × List (Int × Int) => [.val (.int a.1), .val (sq a.2.1 (a.2.2.map p2))]) (fun a => 1 ≤ a.1 ∧ a.1 ≤ 60 ∧ a.2.2 ≠ [] ∧ a.2.2.length ≤ 60) (fun a r => r = .fresh ((lawMap a.1 a.2.2).map D.int))
def lawGo (es : List Int) (n : Int) : Int := es.getD (n % es.length).toNat 0 + n - n % es.length
def fsGo : FS := fsD [.v, .v] (fun a : Bool × List Int × Int => [.val (sq a.1 (a.2.1.map D.int)), .val (.int a.2.2)]) (fun a => small a.2.1) (fun a r => r = .val (.int (lawGo a.2.1 a.2.2)))
def fsSomeLength : FS := fsD [.s] (fun _ : Unit => [.stt]) (fun _ => True) (fun _ r => ∃ n : Nat, 1 ≤ n ∧ n ≤ 60 ∧ r = .val (.int n))
/-- rides as the laws draw them -/
structure SomeRides (l : Nat) (rs : List (Int × Int)) : Prop where
  ne : rs ≠ []
  len : rs.length ≤ 60
  up : ∀ p ∈ rs, p.1 ≤ p.2
  far : ∀ p ∈ rs, p.2 ≤ p.1 + 2 * l
  lo : ∀ p ∈ rs, -2 * (l : Int) ≤ p.1
  hi : ∀ p ∈ rs, p.1 < 3 * l
def fsSomeRides : FS := fsD [.s, .v] (fun l : Nat => [.stt, .val (.int l)]) (fun l => 1 ≤ l ∧ l ≤ 60) (fun l r => ∃ rs, SomeRides l rs ∧ r = .fresh (rs.map p2))
/-- the words of _law_put -/
inductive PutW where | then_ | quicker | slower
def PutW.s : PutW → Str
  | .then_ => "then"
  | .quicker => "quicker"
  | .slower => "slower"
def putE (w : PutW) (xs ys : List Int) : List Int := match w with
  | .then_ => xs.map fun e => lawGo ys e
  | .quicker => minE xs ys
  | .slower => maxE xs ys
def fsPut : FS := fsD [.v, .v, .v] (fun a : PutW × List Int × List Int => [.val (.str a.1.s), .val (li a.2.1), .val (li a.2.2)]) (fun a => small a.2.1 ∧ a.2.2.length = a.2.1.length) (fun a r => r = .fresh ((putE a.1 a.2.1 a.2.2).map D.int))
theorem then_ne : ¬ (("quicker" : Str) = "then") := by decide +kernel
theorem slower_ne : ¬ (("slower" : Str) = "then") := by decide +kernel
theorem slower_ne2 : ¬ (("slower" : Str) = "quicker") := by decide +kernel
theorem mn2 (a b : Int) : mn [a, b] = min a b := rfl
theorem mx2 (a b : Int) : mx [a, b] = max a b := rfl
section
variable {C : Ct}
theorem pick_keeps (h1 : KnF C "_law_draw" fsDraw 1) : Keeps C ir_law_pick n_law_pick ["state", "some"] fsPick := by
  refine keeps_of fun a P X hd hP => ⟨rfl, ?_⟩
  obtain ⟨b, xs⟩ := a
  obtain ⟨k1, k2⟩ := hd
  simp only at k1 k2
  have hl : 0 < xs.length := List.length_pos_iff.mpr k1
  simp [ir_law_pick, n_law_pick, wS, wE, wEs, wT, wC, wO, wIt, wipeD, frzD, Cst.d, asAll, startD, wEq_int, wEq_str, wEq_bl, wBi_len, wBi_abs, wBi_min2, wBi_max2, see_val, see_fresh, see_brw, dat_val, dat_fresh, out_val, out_fresh, out_stt, tru_non, tru_bl, tru_int, tru_lst, tru_tup, tru_fresh, tru_brw, as_vv, as_vf, as_s, as_av, as_af, as_ab, as_bf, as_bb, as_bl, lv_lst, lv_fresh, lv_brw, int_int, len_lst, len_tup, len_frl, len_fresh, len_brw, rd_val, rd_own, rd_bor, rd_stt, it_lst, it_tup, it_frl, it_fresh, it_brw, bin_add, bin_sub, bin_mul, bin_fdiv, bin_mod, bin_pow, bin_str, cat_vv, cat_vf, cat_vb, rep_v, cat_fv, cat_ff, cat_fb, rep_f, cat_bv, cat_bf, cat_bb, rep_b, cmp_eq_vv, cmp_eq_fv, cmp_eq_vf, cmp_eq_ff, cmp_eq_fb, cmp_eq_bv, cmp_eq_vb, cmp_eq_bf, cmp_eq_bb, cmp_ne_vv, cmp_ne_fv, cmp_ne_vf, cmp_ne_ff, cmp_ne_fb, cmp_ne_bv, cmp_ne_vb, cmp_ne_bf, cmp_ne_bb, cmp_lt, cmp_le, cmp_gt, cmp_ge, cmp_is_non, cmp_isn_non, cmp_is_bl, cmp_isn_bl, isNon_non, isNon_int, isNon_str, isNon_lst, isNon_tup, isNon_frl, isNon_obj, isNon_bl, ix_tup, ix_v, ix_f, ix_b, tg_nm, tg_t2, tg_t3, asg_nm, asg_t2, asg_t3, nm_val, nm_fresh, nm_stt, sl_val, sl_brw, sl_stt, ty_int, ty_tt, ty_tv, ty_lv, ty_tf, ty_lf, ty_tb, ty_lb, ty_lt, slc_tup, slc_v, slc_f, slc_b, slc_str, ti, li, p2, it_sq, len_sq, rng_1, rng_2, it_sqR, len_sqR, rd_sqR, as_sqR, h1.1]
  refine draw_call (by omega) (by omega) fun d d1 d2 => ?_
  simp only [out_val, true_and]
  have hi : d.toNat < xs.length := by omega
  have e : atI xs d = some xs[d.toNat] := by
    unfold atI ixN
    simp [d1, d2, List.getElem?_eq_getElem hi]
  have fin : (R.out (.val xs[d.toNat]) = true ∧ P (.val xs[d.toNat])) := ⟨rfl, hP _ ⟨_, List.getElem_mem hi, rfl⟩⟩
  cases b
  · simpa [wS, wE, wEs, wT, wC, wO, wIt, wipeD, frzD, Cst.d, asAll, startD, wEq_int, wEq_str, wEq_bl, wBi_len, wBi_abs, wBi_min2, wBi_max2, see_val, see_fresh, see_brw, dat_val, dat_fresh, out_val, out_fresh, out_stt, tru_non, tru_bl, tru_int, tru_lst, tru_tup, tru_fresh, tru_brw, as_vv, as_vf, as_s, as_av, as_af, as_ab, as_bf, as_bb, as_bl, lv_lst, lv_fresh, lv_brw, int_int, len_lst, len_tup, len_frl, len_fresh, len_brw, rd_val, rd_own, rd_bor, rd_stt, it_lst, it_tup, it_frl, it_fresh, it_brw, bin_add, bin_sub, bin_mul, bin_fdiv, bin_mod, bin_pow, bin_str, cat_vv, cat_vf, cat_vb, rep_v, cat_fv, cat_ff, cat_fb, rep_f, cat_bv, cat_bf, cat_bb, rep_b, cmp_eq_vv, cmp_eq_fv, cmp_eq_vf, cmp_eq_ff, cmp_eq_fb, cmp_eq_bv, cmp_eq_vb, cmp_eq_bf, cmp_eq_bb, cmp_ne_vv, cmp_ne_fv, cmp_ne_vf, cmp_ne_ff, cmp_ne_fb, cmp_ne_bv, cmp_ne_vb, cmp_ne_bf, cmp_ne_bb, cmp_lt, cmp_le, cmp_gt, cmp_ge, cmp_is_non, cmp_isn_non, cmp_is_bl, cmp_isn_bl, isNon_non, isNon_int, isNon_str, isNon_lst, isNon_tup, isNon_frl, isNon_obj, isNon_bl, ix_tup, ix_v, ix_f, ix_b, tg_nm, tg_t2, tg_t3, asg_nm, asg_t2, asg_t3, nm_val, nm_fresh, nm_stt, sl_val, sl_brw, sl_stt, ty_int, ty_tt, ty_tv, ty_lv, ty_tf, ty_lf, ty_tb, ty_lb, ty_lt, slc_tup, slc_v, slc_f, slc_b, slc_str, ti, li, p2, it_sq, len_sq, rng_1, rng_2, it_sqR, len_sqR, rd_sqR, as_sqR, sq, e] using fin
  · simpa [wS, wE, wEs, wT, wC, wO, wIt, wipeD, frzD, Cst.d, asAll, startD, wEq_int, wEq_str, wEq_bl, wBi_len, wBi_abs, wBi_min2, wBi_max2, see_val, see_fresh, see_brw, dat_val, dat_fresh, out_val, out_fresh, out_stt, tru_non, tru_bl, tru_int, tru_lst, tru_tup, tru_fresh, tru_brw, as_vv, as_vf, as_s, as_av, as_af, as_ab, as_bf, as_bb, as_bl, lv_lst, lv_fresh, lv_brw, int_int, len_lst, len_tup, len_frl, len_fresh, len_brw, rd_val, rd_own, rd_bor, rd_stt, it_lst, it_tup, it_frl, it_fresh, it_brw, bin_add, bin_sub, bin_mul, bin_fdiv, bin_mod, bin_pow, bin_str, cat_vv, cat_vf, cat_vb, rep_v, cat_fv, cat_ff, cat_fb, rep_f, cat_bv, cat_bf, cat_bb, rep_b, cmp_eq_vv, cmp_eq_fv, cmp_eq_vf, cmp_eq_ff, cmp_eq_fb, cmp_eq_bv, cmp_eq_vb, cmp_eq_bf, cmp_eq_bb, cmp_ne_vv, cmp_ne_fv, cmp_ne_vf, cmp_ne_ff, cmp_ne_fb, cmp_ne_bv, cmp_ne_vb, cmp_ne_bf, cmp_ne_bb, cmp_lt, cmp_le, cmp_gt, cmp_ge, cmp_is_non, cmp_isn_non, cmp_is_bl, cmp_isn_bl, isNon_non, isNon_int, isNon_str, isNon_lst, isNon_tup, isNon_frl, isNon_obj, isNon_bl, ix_tup, ix_v, ix_f, ix_b, tg_nm, tg_t2, tg_t3, asg_nm, asg_t2, asg_t3, nm_val, nm_fresh, nm_stt, sl_val, sl_brw, sl_stt, ty_int, ty_tt, ty_tv, ty_lv, ty_tf, ty_lf, ty_tb, ty_lb, ty_lt, slc_tup, slc_v, slc_f, slc_b, slc_str, ti, li, p2, it_sq, len_sq, rng_1, rng_2, it_sqR, len_sqR, rd_sqR, as_sqR, sq, e] using fin
theorem says_keeps : Keeps C ir_law_says n_law_says ["told", "is_due"] fsSays := by
  refine keeps_of fun a P X hd hP => ⟨rfl, ?_⟩
  have hP := hP _ rfl
  obtain ⟨a, b⟩ := a
  cases b <;> simpa [ir_law_says, n_law_says, wS, wE, wEs, wT, wC, wO, wIt, wipeD, frzD, Cst.d, asAll, startD, wEq_int, wEq_str, wEq_bl, wBi_len, wBi_abs, wBi_min2, wBi_max2, see_val, see_fresh, see_brw, dat_val, dat_fresh, out_val, out_fresh, out_stt, tru_non, tru_bl, tru_int, tru_lst, tru_tup, tru_fresh, tru_brw, as_vv, as_vf, as_s, as_av, as_af, as_ab, as_bf, as_bb, as_bl, lv_lst, lv_fresh, lv_brw, int_int, len_lst, len_tup, len_frl, len_fresh, len_brw, rd_val, rd_own, rd_bor, rd_stt, it_lst, it_tup, it_frl, it_fresh, it_brw, bin_add, bin_sub, bin_mul, bin_fdiv, bin_mod, bin_pow, bin_str, cat_vv, cat_vf, cat_vb, rep_v, cat_fv, cat_ff, cat_fb, rep_f, cat_bv, cat_bf, cat_bb, rep_b, cmp_eq_vv, cmp_eq_fv, cmp_eq_vf, cmp_eq_ff, cmp_eq_fb, cmp_eq_bv, cmp_eq_vb, cmp_eq_bf, cmp_eq_bb, cmp_ne_vv, cmp_ne_fv, cmp_ne_vf, cmp_ne_ff, cmp_ne_fb, cmp_ne_bv, cmp_ne_vb, cmp_ne_bf, cmp_ne_bb, cmp_lt, cmp_le, cmp_gt, cmp_ge, cmp_is_non, cmp_isn_non, cmp_is_bl, cmp_isn_bl, isNon_non, isNon_int, isNon_str, isNon_lst, isNon_tup, isNon_frl, isNon_obj, isNon_bl, ix_tup, ix_v, ix_f, ix_b, tg_nm, tg_t2, tg_t3, asg_nm, asg_t2, asg_t3, nm_val, nm_fresh, nm_stt, sl_val, sl_brw, sl_stt, ty_int, ty_tt, ty_tv, ty_lv, ty_tf, ty_lf, ty_tb, ty_lb, ty_lt, slc_tup, slc_v, slc_f, slc_b, slc_str, ti, li, p2, it_sq, len_sq, rng_1, rng_2, it_sqR, len_sqR, rd_sqR, as_sqR] using hP
theorem go_keeps : Keeps C ir_law_go n_law_go ["ends", "number"] fsGo := by
  refine keeps_of fun a P X hd hP => ⟨rfl, ?_⟩
  have hP := hP _ rfl
  obtain ⟨b, es, n⟩ := a
  obtain ⟨h1, h2⟩ := hd
  simp only at h1 h2
  have hP : P (.val (.int (lawGo es n))) := hP
  have hl : (0 : Int) < es.length := by omega
  have e := atI_map (xs := es) (i := n % es.length) (Int.emod_nonneg _ (by omega)) (Int.emod_lt_of_pos _ hl)
  have hne : es ≠ [] := by rintro rfl; simp at h1
  simp only [lawGo, List.getD] at hP
  simp only [List.getD] at e
  cases b
  · simp [ir_law_go, n_law_go, wS, wE, wEs, wT, wC, wO, wIt, wipeD, frzD, Cst.d, asAll, startD, wEq_int, wEq_str, wEq_bl, wBi_len, wBi_abs, wBi_min2, wBi_max2, see_val, see_fresh, see_brw, dat_val, dat_fresh, out_val, out_fresh, out_stt, tru_non, tru_bl, tru_int, tru_lst, tru_tup, tru_fresh, tru_brw, as_vv, as_vf, as_s, as_av, as_af, as_ab, as_bf, as_bb, as_bl, lv_lst, lv_fresh, lv_brw, int_int, len_lst, len_tup, len_frl, len_fresh, len_brw, rd_val, rd_own, rd_bor, rd_stt, it_lst, it_tup, it_frl, it_fresh, it_brw, bin_add, bin_sub, bin_mul, bin_fdiv, bin_mod, bin_pow, bin_str, cat_vv, cat_vf, cat_vb, rep_v, cat_fv, cat_ff, cat_fb, rep_f, cat_bv, cat_bf, cat_bb, rep_b, cmp_eq_vv, cmp_eq_fv, cmp_eq_vf, cmp_eq_ff, cmp_eq_fb, cmp_eq_bv, cmp_eq_vb, cmp_eq_bf, cmp_eq_bb, cmp_ne_vv, cmp_ne_fv, cmp_ne_vf, cmp_ne_ff, cmp_ne_fb, cmp_ne_bv, cmp_ne_vb, cmp_ne_bf, cmp_ne_bb, cmp_lt, cmp_le, cmp_gt, cmp_ge, cmp_is_non, cmp_isn_non, cmp_is_bl, cmp_isn_bl, isNon_non, isNon_int, isNon_str, isNon_lst, isNon_tup, isNon_frl, isNon_obj, isNon_bl, ix_tup, ix_v, ix_f, ix_b, tg_nm, tg_t2, tg_t3, asg_nm, asg_t2, asg_t3, nm_val, nm_fresh, nm_stt, sl_val, sl_brw, sl_stt, ty_int, ty_tt, ty_tv, ty_lv, ty_tf, ty_lf, ty_tb, ty_lb, ty_lt, slc_tup, slc_v, slc_f, slc_b, slc_str, ti, li, p2, it_sq, len_sq, rng_1, rng_2, it_sqR, len_sqR, rd_sqR, as_sqR, sq, fmod_e (Int.le_of_lt hl), e, hne]
    exact hP
  · simp [ir_law_go, n_law_go, wS, wE, wEs, wT, wC, wO, wIt, wipeD, frzD, Cst.d, asAll, startD, wEq_int, wEq_str, wEq_bl, wBi_len, wBi_abs, wBi_min2, wBi_max2, see_val, see_fresh, see_brw, dat_val, dat_fresh, out_val, out_fresh, out_stt, tru_non, tru_bl, tru_int, tru_lst, tru_tup, tru_fresh, tru_brw, as_vv, as_vf, as_s, as_av, as_af, as_ab, as_bf, as_bb, as_bl, lv_lst, lv_fresh, lv_brw, int_int, len_lst, len_tup, len_frl, len_fresh, len_brw, rd_val, rd_own, rd_bor, rd_stt, it_lst, it_tup, it_frl, it_fresh, it_brw, bin_add, bin_sub, bin_mul, bin_fdiv, bin_mod, bin_pow, bin_str, cat_vv, cat_vf, cat_vb, rep_v, cat_fv, cat_ff, cat_fb, rep_f, cat_bv, cat_bf, cat_bb, rep_b, cmp_eq_vv, cmp_eq_fv, cmp_eq_vf, cmp_eq_ff, cmp_eq_fb, cmp_eq_bv, cmp_eq_vb, cmp_eq_bf, cmp_eq_bb, cmp_ne_vv, cmp_ne_fv, cmp_ne_vf, cmp_ne_ff, cmp_ne_fb, cmp_ne_bv, cmp_ne_vb, cmp_ne_bf, cmp_ne_bb, cmp_lt, cmp_le, cmp_gt, cmp_ge, cmp_is_non, cmp_isn_non, cmp_is_bl, cmp_isn_bl, isNon_non, isNon_int, isNon_str, isNon_lst, isNon_tup, isNon_frl, isNon_obj, isNon_bl, ix_tup, ix_v, ix_f, ix_b, tg_nm, tg_t2, tg_t3, asg_nm, asg_t2, asg_t3, nm_val, nm_fresh, nm_stt, sl_val, sl_brw, sl_stt, ty_int, ty_tt, ty_tv, ty_lv, ty_tf, ty_lf, ty_tb, ty_lb, ty_lt, slc_tup, slc_v, slc_f, slc_b, slc_str, ti, li, p2, it_sq, len_sq, rng_1, rng_2, it_sqR, len_sqR, rd_sqR, as_sqR, sq, fmod_e (Int.le_of_lt hl), e, hne]
    exact hP
theorem some_length_keeps (h1 : KnF C "_law_draw" fsDraw 1) (h2 : KnF C "_law_pick" fsPick 1) : Keeps C ir_law_some_length n_law_some_length ["state"] fsSomeLength := by
  refine keeps_of fun a P X hd hP => ⟨rfl, ?_⟩
  simp [ir_law_some_length, n_law_some_length, wS, wE, wEs, wT, wC, wO, wIt, wipeD, frzD, Cst.d, asAll, startD, wEq_int, wEq_str, wEq_bl, wBi_len, wBi_abs, wBi_min2, wBi_max2, see_val, see_fresh, see_brw, dat_val, dat_fresh, out_val, out_fresh, out_stt, tru_non, tru_bl, tru_int, tru_lst, tru_tup, tru_fresh, tru_brw, as_vv, as_vf, as_s, as_av, as_af, as_ab, as_bf, as_bb, as_bl, lv_lst, lv_fresh, lv_brw, int_int, len_lst, len_tup, len_frl, len_fresh, len_brw, rd_val, rd_own, rd_bor, rd_stt, it_lst, it_tup, it_frl, it_fresh, it_brw, bin_add, bin_sub, bin_mul, bin_fdiv, bin_mod, bin_pow, bin_str, cat_vv, cat_vf, cat_vb, rep_v, cat_fv, cat_ff, cat_fb, rep_f, cat_bv, cat_bf, cat_bb, rep_b, cmp_eq_vv, cmp_eq_fv, cmp_eq_vf, cmp_eq_ff, cmp_eq_fb, cmp_eq_bv, cmp_eq_vb, cmp_eq_bf, cmp_eq_bb, cmp_ne_vv, cmp_ne_fv, cmp_ne_vf, cmp_ne_ff, cmp_ne_fb, cmp_ne_bv, cmp_ne_vb, cmp_ne_bf, cmp_ne_bb, cmp_lt, cmp_le, cmp_gt, cmp_ge, cmp_is_non, cmp_isn_non, cmp_is_bl, cmp_isn_bl, isNon_non, isNon_int, isNon_str, isNon_lst, isNon_tup, isNon_frl, isNon_obj, isNon_bl, ix_tup, ix_v, ix_f, ix_b, tg_nm, tg_t2, tg_t3, asg_nm, asg_t2, asg_t3, nm_val, nm_fresh, nm_stt, sl_val, sl_brw, sl_stt, ty_int, ty_tt, ty_tv, ty_lv, ty_tf, ty_lf, ty_tb, ty_lb, ty_lt, slc_tup, slc_v, slc_f, slc_b, slc_str, ti, li, p2, it_sq, len_sq, rng_1, rng_2, it_sqR, len_sqR, rd_sqR, as_sqR, h1.1, h2.1]
  refine draw_call (by omega) (by omega) fun d d1 d2 => ?_
  simp [wS, wE, wEs, wT, wC, wO, wIt, wipeD, frzD, Cst.d, asAll, startD, wEq_int, wEq_str, wEq_bl, wBi_len, wBi_abs, wBi_min2, wBi_max2, see_val, see_fresh, see_brw, dat_val, dat_fresh, out_val, out_fresh, out_stt, tru_non, tru_bl, tru_int, tru_lst, tru_tup, tru_fresh, tru_brw, as_vv, as_vf, as_s, as_av, as_af, as_ab, as_bf, as_bb, as_bl, lv_lst, lv_fresh, lv_brw, int_int, len_lst, len_tup, len_frl, len_fresh, len_brw, rd_val, rd_own, rd_bor, rd_stt, it_lst, it_tup, it_frl, it_fresh, it_brw, bin_add, bin_sub, bin_mul, bin_fdiv, bin_mod, bin_pow, bin_str, cat_vv, cat_vf, cat_vb, rep_v, cat_fv, cat_ff, cat_fb, rep_f, cat_bv, cat_bf, cat_bb, rep_b, cmp_eq_vv, cmp_eq_fv, cmp_eq_vf, cmp_eq_ff, cmp_eq_fb, cmp_eq_bv, cmp_eq_vb, cmp_eq_bf, cmp_eq_bb, cmp_ne_vv, cmp_ne_fv, cmp_ne_vf, cmp_ne_ff, cmp_ne_fb, cmp_ne_bv, cmp_ne_vb, cmp_ne_bf, cmp_ne_bb, cmp_lt, cmp_le, cmp_gt, cmp_ge, cmp_is_non, cmp_isn_non, cmp_is_bl, cmp_isn_bl, isNon_non, isNon_int, isNon_str, isNon_lst, isNon_tup, isNon_frl, isNon_obj, isNon_bl, ix_tup, ix_v, ix_f, ix_b, tg_nm, tg_t2, tg_t3, asg_nm, asg_t2, asg_t3, nm_val, nm_fresh, nm_stt, sl_val, sl_brw, sl_stt, ty_int, ty_tt, ty_tv, ty_lv, ty_tf, ty_lf, ty_tb, ty_lb, ty_lt, slc_tup, slc_v, slc_f, slc_b, slc_str, ti, li, p2, it_sq, len_sq, rng_1, rng_2, it_sqR, len_sqR, rd_sqR, as_sqR]
  refine ⟨by rw [sizeLine_eq]; decide, ?_⟩
  refine wcall_of (α := Bool × List D) (false, [1, 2, 3, 4, 5, 6, 7, 8, 9, 10, 12, 15, 60, 1 + d].map D.int) (by simp [wS, wE, wEs, wT, wC, wO, wIt, wipeD, frzD, Cst.d, asAll, startD, wEq_int, wEq_str, wEq_bl, wBi_len, wBi_abs, wBi_min2, wBi_max2, see_val, see_fresh, see_brw, dat_val, dat_fresh, out_val, out_fresh, out_stt, tru_non, tru_bl, tru_int, tru_lst, tru_tup, tru_fresh, tru_brw, as_vv, as_vf, as_s, as_av, as_af, as_ab, as_bf, as_bb, as_bl, lv_lst, lv_fresh, lv_brw, int_int, len_lst, len_tup, len_frl, len_fresh, len_brw, rd_val, rd_own, rd_bor, rd_stt, it_lst, it_tup, it_frl, it_fresh, it_brw, bin_add, bin_sub, bin_mul, bin_fdiv, bin_mod, bin_pow, bin_str, cat_vv, cat_vf, cat_vb, rep_v, cat_fv, cat_ff, cat_fb, rep_f, cat_bv, cat_bf, cat_bb, rep_b, cmp_eq_vv, cmp_eq_fv, cmp_eq_vf, cmp_eq_ff, cmp_eq_fb, cmp_eq_bv, cmp_eq_vb, cmp_eq_bf, cmp_eq_bb, cmp_ne_vv, cmp_ne_fv, cmp_ne_vf, cmp_ne_ff, cmp_ne_fb, cmp_ne_bv, cmp_ne_vb, cmp_ne_bf, cmp_ne_bb, cmp_lt, cmp_le, cmp_gt, cmp_ge, cmp_is_non, cmp_isn_non, cmp_is_bl, cmp_isn_bl, isNon_non, isNon_int, isNon_str, isNon_lst, isNon_tup, isNon_frl, isNon_obj, isNon_bl, ix_tup, ix_v, ix_f, ix_b, tg_nm, tg_t2, tg_t3, asg_nm, asg_t2, asg_t3, nm_val, nm_fresh, nm_stt, sl_val, sl_brw, sl_stt, ty_int, ty_tt, ty_tv, ty_lv, ty_tf, ty_lf, ty_tb, ty_lb, ty_lt, slc_tup, slc_v, slc_f, slc_b, slc_str, ti, li, p2, it_sq, len_sq, rng_1, rng_2, it_sqR, len_sqR, rd_sqR, as_sqR, sq]) ⟨by simp, by simp⟩ ?_
  rintro r ⟨x, hx, rfl⟩
  simp only [List.map_cons, List.map_nil, List.mem_cons, List.not_mem_nil, or_false] at hx
  refine ⟨rfl, hP _ ?_⟩
  have fin : ∀ i : Int, 1 ≤ i → i ≤ 60 → x = .int i → ∃ n : Nat, 1 ≤ n ∧ n ≤ 60 ∧ (R.val x : R) = .val (.int n) := fun i a b e => ⟨i.toNat, by omega, by omega, by rw [e]; congr 2; omega⟩
  rcases hx with h | h | h | h | h | h | h | h | h | h | h | h | h | h
  all_goals exact fin _ (by omega) (by omega) h
abbrev mapOf (l : Nat) (y : Int) (p : Int × Int) : Int := p.2 - p.1 + p.1 % (l : Int) + (if y ≤ p.1 % (l : Int) then 0 else (l : Int))
theorem map_keeps : Keeps C ir_law_map n_law_map ["length", "rides"] fsMap := by
  refine keeps_of fun a P X hd hP => ⟨rfl, ?_⟩
  obtain ⟨l, b, rs⟩ := a
  have hP : P (.fresh ((lawMap l rs).map D.int)) := hP _ rfl
  obtain ⟨h1, h2, h3, h4⟩ := hd
  simp only at h1 h2 h3 h4
  have hl : (0 : Int) < l := by omega
  simp [ir_law_map, n_law_map, wS, wE, wEs, wT, wC, wO, wIt, wipeD, frzD, Cst.d, asAll, startD, wEq_int, wEq_str, wEq_bl, wBi_len, wBi_abs, wBi_min2, wBi_max2, see_val, see_fresh, see_brw, dat_val, dat_fresh, out_val, out_fresh, out_stt, tru_non, tru_bl, tru_int, tru_lst, tru_tup, tru_fresh, tru_brw, as_vv, as_vf, as_s, as_av, as_af, as_ab, as_bf, as_bb, as_bl, lv_lst, lv_fresh, lv_brw, int_int, len_lst, len_tup, len_frl, len_fresh, len_brw, rd_val, rd_own, rd_bor, rd_stt, it_lst, it_tup, it_frl, it_fresh, it_brw, bin_add, bin_sub, bin_mul, bin_fdiv, bin_mod, bin_pow, bin_str, cat_vv, cat_vf, cat_vb, rep_v, cat_fv, cat_ff, cat_fb, rep_f, cat_bv, cat_bf, cat_bb, rep_b, cmp_eq_vv, cmp_eq_fv, cmp_eq_vf, cmp_eq_ff, cmp_eq_fb, cmp_eq_bv, cmp_eq_vb, cmp_eq_bf, cmp_eq_bb, cmp_ne_vv, cmp_ne_fv, cmp_ne_vf, cmp_ne_ff, cmp_ne_fb, cmp_ne_bv, cmp_ne_vb, cmp_ne_bf, cmp_ne_bb, cmp_lt, cmp_le, cmp_gt, cmp_ge, cmp_is_non, cmp_isn_non, cmp_is_bl, cmp_isn_bl, isNon_non, isNon_int, isNon_str, isNon_lst, isNon_tup, isNon_frl, isNon_obj, isNon_bl, ix_tup, ix_v, ix_f, ix_b, tg_nm, tg_t2, tg_t3, asg_nm, asg_t2, asg_t3, nm_val, nm_fresh, nm_stt, sl_val, sl_brw, sl_stt, ty_int, ty_tt, ty_tv, ty_lv, ty_tf, ty_lf, ty_tb, ty_lb, ty_lt, slc_tup, slc_v, slc_f, slc_b, slc_str, ti, li, p2, it_sq, len_sq, rng_1, rng_2, it_sqR, len_sqR, rd_sqR, as_sqR, costE, costS]
  refine ⟨by omega, ?_⟩
  refine forD_of (fun xs δ => ∃ (ys zs : List Int) (s1 s2 s3 s4 s5 : Sl), xs = ys.map D.int ∧ zs ++ ys = rg l ∧ δ = [.val (.int l), .val (sq b (rs.map p2)), .own ((zs.map fun n => mn (rs.map (mapOf l n))).map D.int), s1, s2, s3, s4, s5]) ?_ ?_ ⟨rg l, [], _, _, _, _, _, rfl, rfl, rfl⟩
  · rintro δ ⟨ys, zs, s1, s2, s3, s4, s5, e1, e2, rfl⟩
    have : ys = [] := by simpa using e1.symm
    subst this
    simp only [List.append_nil] at e2
    subst e2
    exact hP
  · rintro x xs δ k ⟨ys, zs, s1, s2, s3, s4, s5, e1, e2, rfl⟩ hk
    cases ys with
    | nil => cases e1
    | cons y ys =>
      simp only [List.map_cons, List.cons.injEq] at e1
      obtain ⟨rfl, e1⟩ := e1
      have hz : zs.length < l := by
        have := congrArg List.length e2
        rw [rg_length] at this
        simp at this
        omega
      simp [wS, wE, wEs, wT, wC, wO, wIt, wipeD, frzD, Cst.d, asAll, startD, wEq_int, wEq_str, wEq_bl, wBi_len, wBi_abs, wBi_min2, wBi_max2, see_val, see_fresh, see_brw, dat_val, dat_fresh, out_val, out_fresh, out_stt, tru_non, tru_bl, tru_int, tru_lst, tru_tup, tru_fresh, tru_brw, as_vv, as_vf, as_s, as_av, as_af, as_ab, as_bf, as_bb, as_bl, lv_lst, lv_fresh, lv_brw, int_int, len_lst, len_tup, len_frl, len_fresh, len_brw, rd_val, rd_own, rd_bor, rd_stt, it_lst, it_tup, it_frl, it_fresh, it_brw, bin_add, bin_sub, bin_mul, bin_fdiv, bin_mod, bin_pow, bin_str, cat_vv, cat_vf, cat_vb, rep_v, cat_fv, cat_ff, cat_fb, rep_f, cat_bv, cat_bf, cat_bb, rep_b, cmp_eq_vv, cmp_eq_fv, cmp_eq_vf, cmp_eq_ff, cmp_eq_fb, cmp_eq_bv, cmp_eq_vb, cmp_eq_bf, cmp_eq_bb, cmp_ne_vv, cmp_ne_fv, cmp_ne_vf, cmp_ne_ff, cmp_ne_fb, cmp_ne_bv, cmp_ne_vb, cmp_ne_bf, cmp_ne_bb, cmp_lt, cmp_le, cmp_gt, cmp_ge, cmp_is_non, cmp_isn_non, cmp_is_bl, cmp_isn_bl, isNon_non, isNon_int, isNon_str, isNon_lst, isNon_tup, isNon_frl, isNon_obj, isNon_bl, ix_tup, ix_v, ix_f, ix_b, tg_nm, tg_t2, tg_t3, asg_nm, asg_t2, asg_t3, nm_val, nm_fresh, nm_stt, sl_val, sl_brw, sl_stt, ty_int, ty_tt, ty_tv, ty_lv, ty_tf, ty_lf, ty_tb, ty_lb, ty_lt, slc_tup, slc_v, slc_f, slc_b, slc_str, ti, li, p2, it_sq, len_sq, rng_1, rng_2, it_sqR, len_sqR, rd_sqR, as_sqR, costE]
      refine forD_of (fun xs δ => ∃ (us vs : List (Int × Int)) (s3 s4 s5 : Sl), xs = us.map p2 ∧ vs ++ us = rs ∧ δ = [.val (.int l), .val (sq b (rs.map p2)), .own ((zs.map fun n => mn (rs.map (mapOf l n))).map D.int), .val (.int y), .own ((vs.map (mapOf l y)).map D.int), s3, s4, s5]) ?_ ?_ ⟨rs, [], s3, s4, s5, rfl, rfl, by simp [Function.comp_def]⟩
      · rintro δ ⟨us, vs, s3, s4, s5, e3, e4, rfl⟩
        have : us = [] := by simpa using e3.symm
        subst this
        simp only [List.append_nil] at e4
        subst e4
        simp [wS, wE, wEs, wT, wC, wO, wIt, wipeD, frzD, Cst.d, asAll, startD, wEq_int, wEq_str, wEq_bl, wBi_len, wBi_abs, wBi_min2, wBi_max2, see_val, see_fresh, see_brw, dat_val, dat_fresh, out_val, out_fresh, out_stt, tru_non, tru_bl, tru_int, tru_lst, tru_tup, tru_fresh, tru_brw, as_vv, as_vf, as_s, as_av, as_af, as_ab, as_bf, as_bb, as_bl, lv_lst, lv_fresh, lv_brw, int_int, len_lst, len_tup, len_frl, len_fresh, len_brw, rd_val, rd_own, rd_bor, rd_stt, it_lst, it_tup, it_frl, it_fresh, it_brw, bin_add, bin_sub, bin_mul, bin_fdiv, bin_mod, bin_pow, bin_str, cat_vv, cat_vf, cat_vb, rep_v, cat_fv, cat_ff, cat_fb, rep_f, cat_bv, cat_bf, cat_bb, rep_b, cmp_eq_vv, cmp_eq_fv, cmp_eq_vf, cmp_eq_ff, cmp_eq_fb, cmp_eq_bv, cmp_eq_vb, cmp_eq_bf, cmp_eq_bb, cmp_ne_vv, cmp_ne_fv, cmp_ne_vf, cmp_ne_ff, cmp_ne_fb, cmp_ne_bv, cmp_ne_vb, cmp_ne_bf, cmp_ne_bb, cmp_lt, cmp_le, cmp_gt, cmp_ge, cmp_is_non, cmp_isn_non, cmp_is_bl, cmp_isn_bl, isNon_non, isNon_int, isNon_str, isNon_lst, isNon_tup, isNon_frl, isNon_obj, isNon_bl, ix_tup, ix_v, ix_f, ix_b, tg_nm, tg_t2, tg_t3, asg_nm, asg_t2, asg_t3, nm_val, nm_fresh, nm_stt, sl_val, sl_brw, sl_stt, ty_int, ty_tt, ty_tv, ty_lv, ty_tf, ty_lf, ty_tb, ty_lb, ty_lt, slc_tup, slc_v, slc_f, slc_b, slc_str, ti, li, p2, it_sq, len_sq, rng_1, rng_2, it_sqR, len_sqR, rd_sqR, as_sqR]
        refine wmin_of (ns := vs.map (mapOf l y)) (by simp [R.sv, R.lv]) (by simpa using h3) ?_
        simp [wS, wE, wEs, wT, wC, wO, wIt, wipeD, frzD, Cst.d, asAll, startD, wEq_int, wEq_str, wEq_bl, wBi_len, wBi_abs, wBi_min2, wBi_max2, see_val, see_fresh, see_brw, dat_val, dat_fresh, out_val, out_fresh, out_stt, tru_non, tru_bl, tru_int, tru_lst, tru_tup, tru_fresh, tru_brw, as_vv, as_vf, as_s, as_av, as_af, as_ab, as_bf, as_bb, as_bl, lv_lst, lv_fresh, lv_brw, int_int, len_lst, len_tup, len_frl, len_fresh, len_brw, rd_val, rd_own, rd_bor, rd_stt, it_lst, it_tup, it_frl, it_fresh, it_brw, bin_add, bin_sub, bin_mul, bin_fdiv, bin_mod, bin_pow, bin_str, cat_vv, cat_vf, cat_vb, rep_v, cat_fv, cat_ff, cat_fb, rep_f, cat_bv, cat_bf, cat_bb, rep_b, cmp_eq_vv, cmp_eq_fv, cmp_eq_vf, cmp_eq_ff, cmp_eq_fb, cmp_eq_bv, cmp_eq_vb, cmp_eq_bf, cmp_eq_bb, cmp_ne_vv, cmp_ne_fv, cmp_ne_vf, cmp_ne_ff, cmp_ne_fb, cmp_ne_bv, cmp_ne_vb, cmp_ne_bf, cmp_ne_bb, cmp_lt, cmp_le, cmp_gt, cmp_ge, cmp_is_non, cmp_isn_non, cmp_is_bl, cmp_isn_bl, isNon_non, isNon_int, isNon_str, isNon_lst, isNon_tup, isNon_frl, isNon_obj, isNon_bl, ix_tup, ix_v, ix_f, ix_b, tg_nm, tg_t2, tg_t3, asg_nm, asg_t2, asg_t3, nm_val, nm_fresh, nm_stt, sl_val, sl_brw, sl_stt, ty_int, ty_tt, ty_tv, ty_lv, ty_tf, ty_lf, ty_tb, ty_lb, ty_lt, slc_tup, slc_v, slc_f, slc_b, slc_str, ti, li, p2, it_sq, len_sq, rng_1, rng_2, it_sqR, len_sqR, rd_sqR, as_sqR]
        refine ⟨Nat.lt_trans hz (size_big (by omega)), hk _ ⟨ys, zs ++ [y], .val (.int y), .val (.lst (vs.map (D.int ∘ mapOf l y))), s3, s4, s5, e1, by simpa using e2, ?_⟩⟩
        simp [Function.comp_def]
      · rintro x' xs' δ k' ⟨us, vs, s3, s4, s5, e3, e4, rfl⟩ hk'
        cases us with
        | nil => cases e3
        | cons u us =>
          simp only [List.map_cons, List.cons.injEq] at e3
          obtain ⟨rfl, e3⟩ := e3
          have hv : vs.length < 60 := by
            have := congrArg List.length e4
            simp at this
            omega
          have hd' : ∀ q : Bool, (if q then (0 : Int) else l) = (if q then (0 : Int) else l) := fun _ => rfl
          simp [wS, wE, wEs, wT, wC, wO, wIt, wipeD, frzD, Cst.d, asAll, startD, wEq_int, wEq_str, wEq_bl, wBi_len, wBi_abs, wBi_min2, wBi_max2, see_val, see_fresh, see_brw, dat_val, dat_fresh, out_val, out_fresh, out_stt, tru_non, tru_bl, tru_int, tru_lst, tru_tup, tru_fresh, tru_brw, as_vv, as_vf, as_s, as_av, as_af, as_ab, as_bf, as_bb, as_bl, lv_lst, lv_fresh, lv_brw, int_int, len_lst, len_tup, len_frl, len_fresh, len_brw, rd_val, rd_own, rd_bor, rd_stt, it_lst, it_tup, it_frl, it_fresh, it_brw, bin_add, bin_sub, bin_mul, bin_fdiv, bin_mod, bin_pow, bin_str, cat_vv, cat_vf, cat_vb, rep_v, cat_fv, cat_ff, cat_fb, rep_f, cat_bv, cat_bf, cat_bb, rep_b, cmp_eq_vv, cmp_eq_fv, cmp_eq_vf, cmp_eq_ff, cmp_eq_fb, cmp_eq_bv, cmp_eq_vb, cmp_eq_bf, cmp_eq_bb, cmp_ne_vv, cmp_ne_fv, cmp_ne_vf, cmp_ne_ff, cmp_ne_fb, cmp_ne_bv, cmp_ne_vb, cmp_ne_bf, cmp_ne_bb, cmp_lt, cmp_le, cmp_gt, cmp_ge, cmp_is_non, cmp_isn_non, cmp_is_bl, cmp_isn_bl, isNon_non, isNon_int, isNon_str, isNon_lst, isNon_tup, isNon_frl, isNon_obj, isNon_bl, ix_tup, ix_v, ix_f, ix_b, tg_nm, tg_t2, tg_t3, asg_nm, asg_t2, asg_t3, nm_val, nm_fresh, nm_stt, sl_val, sl_brw, sl_stt, ty_int, ty_tt, ty_tv, ty_lv, ty_tf, ty_lf, ty_tb, ty_lb, ty_lt, slc_tup, slc_v, slc_f, slc_b, slc_str, ti, li, p2, it_sq, len_sq, rng_1, rng_2, it_sqR, len_sqR, rd_sqR, as_sqR, fmod_e (Int.le_of_lt hl)]
          refine ⟨by omega, ?_⟩
          by_cases q : y ≤ u.1 % (l : Int)
          · simp [wS, wE, wEs, wT, wC, wO, wIt, wipeD, frzD, Cst.d, asAll, startD, wEq_int, wEq_str, wEq_bl, wBi_len, wBi_abs, wBi_min2, wBi_max2, see_val, see_fresh, see_brw, dat_val, dat_fresh, out_val, out_fresh, out_stt, tru_non, tru_bl, tru_int, tru_lst, tru_tup, tru_fresh, tru_brw, as_vv, as_vf, as_s, as_av, as_af, as_ab, as_bf, as_bb, as_bl, lv_lst, lv_fresh, lv_brw, int_int, len_lst, len_tup, len_frl, len_fresh, len_brw, rd_val, rd_own, rd_bor, rd_stt, it_lst, it_tup, it_frl, it_fresh, it_brw, bin_add, bin_sub, bin_mul, bin_fdiv, bin_mod, bin_pow, bin_str, cat_vv, cat_vf, cat_vb, rep_v, cat_fv, cat_ff, cat_fb, rep_f, cat_bv, cat_bf, cat_bb, rep_b, cmp_eq_vv, cmp_eq_fv, cmp_eq_vf, cmp_eq_ff, cmp_eq_fb, cmp_eq_bv, cmp_eq_vb, cmp_eq_bf, cmp_eq_bb, cmp_ne_vv, cmp_ne_fv, cmp_ne_vf, cmp_ne_ff, cmp_ne_fb, cmp_ne_bv, cmp_ne_vb, cmp_ne_bf, cmp_ne_bb, cmp_lt, cmp_le, cmp_gt, cmp_ge, cmp_is_non, cmp_isn_non, cmp_is_bl, cmp_isn_bl, isNon_non, isNon_int, isNon_str, isNon_lst, isNon_tup, isNon_frl, isNon_obj, isNon_bl, ix_tup, ix_v, ix_f, ix_b, tg_nm, tg_t2, tg_t3, asg_nm, asg_t2, asg_t3, nm_val, nm_fresh, nm_stt, sl_val, sl_brw, sl_stt, ty_int, ty_tt, ty_tv, ty_lv, ty_tf, ty_lf, ty_tb, ty_lb, ty_lt, slc_tup, slc_v, slc_f, slc_b, slc_str, ti, li, p2, it_sq, len_sq, rng_1, rng_2, it_sqR, len_sqR, rd_sqR, as_sqR, q]
            refine ⟨Nat.lt_trans hv (size_big (by omega)), hk' _ ⟨us, vs ++ [u], .val (.int u.1), .val (.int u.2), .val (.int (u.1 % (l : Int))), e3, by simpa using e4, ?_⟩⟩
            simp [Function.comp_def, mapOf, q]
          · simp [wS, wE, wEs, wT, wC, wO, wIt, wipeD, frzD, Cst.d, asAll, startD, wEq_int, wEq_str, wEq_bl, wBi_len, wBi_abs, wBi_min2, wBi_max2, see_val, see_fresh, see_brw, dat_val, dat_fresh, out_val, out_fresh, out_stt, tru_non, tru_bl, tru_int, tru_lst, tru_tup, tru_fresh, tru_brw, as_vv, as_vf, as_s, as_av, as_af, as_ab, as_bf, as_bb, as_bl, lv_lst, lv_fresh, lv_brw, int_int, len_lst, len_tup, len_frl, len_fresh, len_brw, rd_val, rd_own, rd_bor, rd_stt, it_lst, it_tup, it_frl, it_fresh, it_brw, bin_add, bin_sub, bin_mul, bin_fdiv, bin_mod, bin_pow, bin_str, cat_vv, cat_vf, cat_vb, rep_v, cat_fv, cat_ff, cat_fb, rep_f, cat_bv, cat_bf, cat_bb, rep_b, cmp_eq_vv, cmp_eq_fv, cmp_eq_vf, cmp_eq_ff, cmp_eq_fb, cmp_eq_bv, cmp_eq_vb, cmp_eq_bf, cmp_eq_bb, cmp_ne_vv, cmp_ne_fv, cmp_ne_vf, cmp_ne_ff, cmp_ne_fb, cmp_ne_bv, cmp_ne_vb, cmp_ne_bf, cmp_ne_bb, cmp_lt, cmp_le, cmp_gt, cmp_ge, cmp_is_non, cmp_isn_non, cmp_is_bl, cmp_isn_bl, isNon_non, isNon_int, isNon_str, isNon_lst, isNon_tup, isNon_frl, isNon_obj, isNon_bl, ix_tup, ix_v, ix_f, ix_b, tg_nm, tg_t2, tg_t3, asg_nm, asg_t2, asg_t3, nm_val, nm_fresh, nm_stt, sl_val, sl_brw, sl_stt, ty_int, ty_tt, ty_tv, ty_lv, ty_tf, ty_lf, ty_tb, ty_lb, ty_lt, slc_tup, slc_v, slc_f, slc_b, slc_str, ti, li, p2, it_sq, len_sq, rng_1, rng_2, it_sqR, len_sqR, rd_sqR, as_sqR, q]
            refine ⟨Nat.lt_trans hv (size_big (by omega)), hk' _ ⟨us, vs ++ [u], .val (.int u.1), .val (.int u.2), .val (.int (u.1 % (l : Int))), e3, by simpa using e4, ?_⟩⟩
            simp [Function.comp_def, mapOf, q]
theorem some_rides_keeps (h1 : KnF C "_law_draw" fsDraw 1) : Keeps C ir_law_some_rides n_law_some_rides ["state", "length"] fsSomeRides := by
  refine keeps_of fun l P X hd hP => ⟨rfl, ?_⟩
  obtain ⟨k1, k2⟩ := hd
  have z2 : (2 : Nat) ≤ sizeLine := by rw [sizeLine_eq]; decide
  have hl : (1 : Int) ≤ l := by omega
  have hl2 : (l : Int) ≤ 60 := by omega
  have hc : ∀ a b : E, costE C a ≤ costE C a + costE C b := fun _ _ => Nat.le_add_right _ _
  simp [ir_law_some_rides, n_law_some_rides, wS, wE, wEs, wT, wC, wO, wIt, wipeD, frzD, Cst.d, asAll, startD, wEq_int, wEq_str, wEq_bl, wBi_len, wBi_abs, wBi_min2, wBi_max2, see_val, see_fresh, see_brw, dat_val, dat_fresh, out_val, out_fresh, out_stt, tru_non, tru_bl, tru_int, tru_lst, tru_tup, tru_fresh, tru_brw, as_vv, as_vf, as_s, as_av, as_af, as_ab, as_bf, as_bb, as_bl, lv_lst, lv_fresh, lv_brw, int_int, len_lst, len_tup, len_frl, len_fresh, len_brw, rd_val, rd_own, rd_bor, rd_stt, it_lst, it_tup, it_frl, it_fresh, it_brw, bin_add, bin_sub, bin_mul, bin_fdiv, bin_mod, bin_pow, bin_str, cat_vv, cat_vf, cat_vb, rep_v, cat_fv, cat_ff, cat_fb, rep_f, cat_bv, cat_bf, cat_bb, rep_b, cmp_eq_vv, cmp_eq_fv, cmp_eq_vf, cmp_eq_ff, cmp_eq_fb, cmp_eq_bv, cmp_eq_vb, cmp_eq_bf, cmp_eq_bb, cmp_ne_vv, cmp_ne_fv, cmp_ne_vf, cmp_ne_ff, cmp_ne_fb, cmp_ne_bv, cmp_ne_vb, cmp_ne_bf, cmp_ne_bb, cmp_lt, cmp_le, cmp_gt, cmp_ge, cmp_is_non, cmp_isn_non, cmp_is_bl, cmp_isn_bl, isNon_non, isNon_int, isNon_str, isNon_lst, isNon_tup, isNon_frl, isNon_obj, isNon_bl, ix_tup, ix_v, ix_f, ix_b, tg_nm, tg_t2, tg_t3, asg_nm, asg_t2, asg_t3, nm_val, nm_fresh, nm_stt, sl_val, sl_brw, sl_stt, ty_int, ty_tt, ty_tv, ty_lv, ty_tf, ty_lf, ty_tb, ty_lb, ty_lt, slc_tup, slc_v, slc_f, slc_b, slc_str, ti, li, p2, it_sq, len_sq, rng_1, rng_2, it_sqR, len_sqR, rd_sqR, as_sqR, h1.1]
  refine draw_call (by omega) (by omega) fun way d1 d2 => ?_
  simp [wS, wE, wEs, wT, wC, wO, wIt, wipeD, frzD, Cst.d, asAll, startD, wEq_int, wEq_str, wEq_bl, wBi_len, wBi_abs, wBi_min2, wBi_max2, see_val, see_fresh, see_brw, dat_val, dat_fresh, out_val, out_fresh, out_stt, tru_non, tru_bl, tru_int, tru_lst, tru_tup, tru_fresh, tru_brw, as_vv, as_vf, as_s, as_av, as_af, as_ab, as_bf, as_bb, as_bl, lv_lst, lv_fresh, lv_brw, int_int, len_lst, len_tup, len_frl, len_fresh, len_brw, rd_val, rd_own, rd_bor, rd_stt, it_lst, it_tup, it_frl, it_fresh, it_brw, bin_add, bin_sub, bin_mul, bin_fdiv, bin_mod, bin_pow, bin_str, cat_vv, cat_vf, cat_vb, rep_v, cat_fv, cat_ff, cat_fb, rep_f, cat_bv, cat_bf, cat_bb, rep_b, cmp_eq_vv, cmp_eq_fv, cmp_eq_vf, cmp_eq_ff, cmp_eq_fb, cmp_eq_bv, cmp_eq_vb, cmp_eq_bf, cmp_eq_bb, cmp_ne_vv, cmp_ne_fv, cmp_ne_vf, cmp_ne_ff, cmp_ne_fb, cmp_ne_bv, cmp_ne_vb, cmp_ne_bf, cmp_ne_bb, cmp_lt, cmp_le, cmp_gt, cmp_ge, cmp_is_non, cmp_isn_non, cmp_is_bl, cmp_isn_bl, isNon_non, isNon_int, isNon_str, isNon_lst, isNon_tup, isNon_frl, isNon_obj, isNon_bl, ix_tup, ix_v, ix_f, ix_b, tg_nm, tg_t2, tg_t3, asg_nm, asg_t2, asg_t3, nm_val, nm_fresh, nm_stt, sl_val, sl_brw, sl_stt, ty_int, ty_tt, ty_tv, ty_lv, ty_tf, ty_lf, ty_tb, ty_lb, ty_lt, slc_tup, slc_v, slc_f, slc_b, slc_str, ti, li, p2, it_sq, len_sq, rng_1, rng_2, it_sqR, len_sqR, rd_sqR, as_sqR]
  refine ⟨.inl ⟨by omega, by omega⟩, ?_⟩
  refine draw_call (by omega) (by omega) fun far d3 d4 => ?_
  simp [wS, wE, wEs, wT, wC, wO, wIt, wipeD, frzD, Cst.d, asAll, startD, wEq_int, wEq_str, wEq_bl, wBi_len, wBi_abs, wBi_min2, wBi_max2, see_val, see_fresh, see_brw, dat_val, dat_fresh, out_val, out_fresh, out_stt, tru_non, tru_bl, tru_int, tru_lst, tru_tup, tru_fresh, tru_brw, as_vv, as_vf, as_s, as_av, as_af, as_ab, as_bf, as_bb, as_bl, lv_lst, lv_fresh, lv_brw, int_int, len_lst, len_tup, len_frl, len_fresh, len_brw, rd_val, rd_own, rd_bor, rd_stt, it_lst, it_tup, it_frl, it_fresh, it_brw, bin_add, bin_sub, bin_mul, bin_fdiv, bin_mod, bin_pow, bin_str, cat_vv, cat_vf, cat_vb, rep_v, cat_fv, cat_ff, cat_fb, rep_f, cat_bv, cat_bf, cat_bb, rep_b, cmp_eq_vv, cmp_eq_fv, cmp_eq_vf, cmp_eq_ff, cmp_eq_fb, cmp_eq_bv, cmp_eq_vb, cmp_eq_bf, cmp_eq_bb, cmp_ne_vv, cmp_ne_fv, cmp_ne_vf, cmp_ne_ff, cmp_ne_fb, cmp_ne_bv, cmp_ne_vb, cmp_ne_bf, cmp_ne_bb, cmp_lt, cmp_le, cmp_gt, cmp_ge, cmp_is_non, cmp_isn_non, cmp_is_bl, cmp_isn_bl, isNon_non, isNon_int, isNon_str, isNon_lst, isNon_tup, isNon_frl, isNon_obj, isNon_bl, ix_tup, ix_v, ix_f, ix_b, tg_nm, tg_t2, tg_t3, asg_nm, asg_t2, asg_t3, nm_val, nm_fresh, nm_stt, sl_val, sl_brw, sl_stt, ty_int, ty_tt, ty_tv, ty_lv, ty_tf, ty_lf, ty_tb, ty_lb, ty_lt, slc_tup, slc_v, slc_f, slc_b, slc_str, ti, li, p2, it_sq, len_sq, rng_1, rng_2, it_sqR, len_sqR, rd_sqR, as_sqR]
  by_cases q : way = 0
  · simp [wS, wE, wEs, wT, wC, wO, wIt, wipeD, frzD, Cst.d, asAll, startD, wEq_int, wEq_str, wEq_bl, wBi_len, wBi_abs, wBi_min2, wBi_max2, see_val, see_fresh, see_brw, dat_val, dat_fresh, out_val, out_fresh, out_stt, tru_non, tru_bl, tru_int, tru_lst, tru_tup, tru_fresh, tru_brw, as_vv, as_vf, as_s, as_av, as_af, as_ab, as_bf, as_bb, as_bl, lv_lst, lv_fresh, lv_brw, int_int, len_lst, len_tup, len_frl, len_fresh, len_brw, rd_val, rd_own, rd_bor, rd_stt, it_lst, it_tup, it_frl, it_fresh, it_brw, bin_add, bin_sub, bin_mul, bin_fdiv, bin_mod, bin_pow, bin_str, cat_vv, cat_vf, cat_vb, rep_v, cat_fv, cat_ff, cat_fb, rep_f, cat_bv, cat_bf, cat_bb, rep_b, cmp_eq_vv, cmp_eq_fv, cmp_eq_vf, cmp_eq_ff, cmp_eq_fb, cmp_eq_bv, cmp_eq_vb, cmp_eq_bf, cmp_eq_bb, cmp_ne_vv, cmp_ne_fv, cmp_ne_vf, cmp_ne_ff, cmp_ne_fb, cmp_ne_bv, cmp_ne_vb, cmp_ne_bf, cmp_ne_bb, cmp_lt, cmp_le, cmp_gt, cmp_ge, cmp_is_non, cmp_isn_non, cmp_is_bl, cmp_isn_bl, isNon_non, isNon_int, isNon_str, isNon_lst, isNon_tup, isNon_frl, isNon_obj, isNon_bl, ix_tup, ix_v, ix_f, ix_b, tg_nm, tg_t2, tg_t3, asg_nm, asg_t2, asg_t3, nm_val, nm_fresh, nm_stt, sl_val, sl_brw, sl_stt, ty_int, ty_tt, ty_tv, ty_lv, ty_tf, ty_lf, ty_tb, ty_lb, ty_lt, slc_tup, slc_v, slc_f, slc_b, slc_str, ti, li, p2, it_sq, len_sq, rng_1, rng_2, it_sqR, len_sqR, rd_sqR, as_sqR, q, h1.1]
    refine draw_call (by omega) (by omega) fun shift d5 d6 => ?_
    simp [wS, wE, wEs, wT, wC, wO, wIt, wipeD, frzD, Cst.d, asAll, startD, wEq_int, wEq_str, wEq_bl, wBi_len, wBi_abs, wBi_min2, wBi_max2, see_val, see_fresh, see_brw, dat_val, dat_fresh, out_val, out_fresh, out_stt, tru_non, tru_bl, tru_int, tru_lst, tru_tup, tru_fresh, tru_brw, as_vv, as_vf, as_s, as_av, as_af, as_ab, as_bf, as_bb, as_bl, lv_lst, lv_fresh, lv_brw, int_int, len_lst, len_tup, len_frl, len_fresh, len_brw, rd_val, rd_own, rd_bor, rd_stt, it_lst, it_tup, it_frl, it_fresh, it_brw, bin_add, bin_sub, bin_mul, bin_fdiv, bin_mod, bin_pow, bin_str, cat_vv, cat_vf, cat_vb, rep_v, cat_fv, cat_ff, cat_fb, rep_f, cat_bv, cat_bf, cat_bb, rep_b, cmp_eq_vv, cmp_eq_fv, cmp_eq_vf, cmp_eq_ff, cmp_eq_fb, cmp_eq_bv, cmp_eq_vb, cmp_eq_bf, cmp_eq_bb, cmp_ne_vv, cmp_ne_fv, cmp_ne_vf, cmp_ne_ff, cmp_ne_fb, cmp_ne_bv, cmp_ne_vb, cmp_ne_bf, cmp_ne_bb, cmp_lt, cmp_le, cmp_gt, cmp_ge, cmp_is_non, cmp_isn_non, cmp_is_bl, cmp_isn_bl, isNon_non, isNon_int, isNon_str, isNon_lst, isNon_tup, isNon_frl, isNon_obj, isNon_bl, ix_tup, ix_v, ix_f, ix_b, tg_nm, tg_t2, tg_t3, asg_nm, asg_t2, asg_t3, nm_val, nm_fresh, nm_stt, sl_val, sl_brw, sl_stt, ty_int, ty_tt, ty_tv, ty_lv, ty_tf, ty_lf, ty_tb, ty_lb, ty_lt, slc_tup, slc_v, slc_f, slc_b, slc_str, ti, li, p2, it_sq, len_sq, rng_1, rng_2, it_sqR, len_sqR, rd_sqR, as_sqR, rg_length, costE, h1.1]
    refine ⟨by omega, size_big (by omega), ?_⟩
    refine walk_map (g := D.int) (f := fun n => p2 (n, n + shift)) (fun n hn acc k hk => ?_) ?_
    · simpa [wS, wE, wEs, wT, wC, wO, wIt, wipeD, frzD, Cst.d, asAll, startD, wEq_int, wEq_str, wEq_bl, wBi_len, wBi_abs, wBi_min2, wBi_max2, see_val, see_fresh, see_brw, dat_val, dat_fresh, out_val, out_fresh, out_stt, tru_non, tru_bl, tru_int, tru_lst, tru_tup, tru_fresh, tru_brw, as_vv, as_vf, as_s, as_av, as_af, as_ab, as_bf, as_bb, as_bl, lv_lst, lv_fresh, lv_brw, int_int, len_lst, len_tup, len_frl, len_fresh, len_brw, rd_val, rd_own, rd_bor, rd_stt, it_lst, it_tup, it_frl, it_fresh, it_brw, bin_add, bin_sub, bin_mul, bin_fdiv, bin_mod, bin_pow, bin_str, cat_vv, cat_vf, cat_vb, rep_v, cat_fv, cat_ff, cat_fb, rep_f, cat_bv, cat_bf, cat_bb, rep_b, cmp_eq_vv, cmp_eq_fv, cmp_eq_vf, cmp_eq_ff, cmp_eq_fb, cmp_eq_bv, cmp_eq_vb, cmp_eq_bf, cmp_eq_bb, cmp_ne_vv, cmp_ne_fv, cmp_ne_vf, cmp_ne_ff, cmp_ne_fb, cmp_ne_bv, cmp_ne_vb, cmp_ne_bf, cmp_ne_bb, cmp_lt, cmp_le, cmp_gt, cmp_ge, cmp_is_non, cmp_isn_non, cmp_is_bl, cmp_isn_bl, isNon_non, isNon_int, isNon_str, isNon_lst, isNon_tup, isNon_frl, isNon_obj, isNon_bl, ix_tup, ix_v, ix_f, ix_b, tg_nm, tg_t2, tg_t3, asg_nm, asg_t2, asg_t3, nm_val, nm_fresh, nm_stt, sl_val, sl_brw, sl_stt, ty_int, ty_tt, ty_tv, ty_lv, ty_tf, ty_lf, ty_tb, ty_lb, ty_lt, slc_tup, slc_v, slc_f, slc_b, slc_str, ti, li, p2, it_sq, len_sq, rng_1, rng_2, it_sqR, len_sqR, rd_sqR, as_sqR, z2] using hk
    · refine hP _ ⟨(rg l).map fun n => (n, n + shift), ⟨?_, ?_, ?_, ?_, ?_, ?_⟩, by simp [Function.comp_def]⟩
      · intro z
        have := congrArg List.length z
        simp [rg_length] at this
        omega
      · simp [rg_length]; omega
      all_goals
        intro p hp
        obtain ⟨n, hn, rfl⟩ := List.mem_map.mp hp
        have := mem_rg.mp hn
        simp only
        omega
  · simp [wS, wE, wEs, wT, wC, wO, wIt, wipeD, frzD, Cst.d, asAll, startD, wEq_int, wEq_str, wEq_bl, wBi_len, wBi_abs, wBi_min2, wBi_max2, see_val, see_fresh, see_brw, dat_val, dat_fresh, out_val, out_fresh, out_stt, tru_non, tru_bl, tru_int, tru_lst, tru_tup, tru_fresh, tru_brw, as_vv, as_vf, as_s, as_av, as_af, as_ab, as_bf, as_bb, as_bl, lv_lst, lv_fresh, lv_brw, int_int, len_lst, len_tup, len_frl, len_fresh, len_brw, rd_val, rd_own, rd_bor, rd_stt, it_lst, it_tup, it_frl, it_fresh, it_brw, bin_add, bin_sub, bin_mul, bin_fdiv, bin_mod, bin_pow, bin_str, cat_vv, cat_vf, cat_vb, rep_v, cat_fv, cat_ff, cat_fb, rep_f, cat_bv, cat_bf, cat_bb, rep_b, cmp_eq_vv, cmp_eq_fv, cmp_eq_vf, cmp_eq_ff, cmp_eq_fb, cmp_eq_bv, cmp_eq_vb, cmp_eq_bf, cmp_eq_bb, cmp_ne_vv, cmp_ne_fv, cmp_ne_vf, cmp_ne_ff, cmp_ne_fb, cmp_ne_bv, cmp_ne_vb, cmp_ne_bf, cmp_ne_bb, cmp_lt, cmp_le, cmp_gt, cmp_ge, cmp_is_non, cmp_isn_non, cmp_is_bl, cmp_isn_bl, isNon_non, isNon_int, isNon_str, isNon_lst, isNon_tup, isNon_frl, isNon_obj, isNon_bl, ix_tup, ix_v, ix_f, ix_b, tg_nm, tg_t2, tg_t3, asg_nm, asg_t2, asg_t3, nm_val, nm_fresh, nm_stt, sl_val, sl_brw, sl_stt, ty_int, ty_tt, ty_tv, ty_lv, ty_tf, ty_lf, ty_tb, ty_lb, ty_lt, slc_tup, slc_v, slc_f, slc_b, slc_str, ti, li, p2, it_sq, len_sq, rng_1, rng_2, it_sqR, len_sqR, rd_sqR, as_sqR, q, h1.1, h1.2, costS, costE]
    refine draw_call (by omega) (by omega) fun many d5 d6 => ?_
    simp [wS, wE, wEs, wT, wC, wO, wIt, wipeD, frzD, Cst.d, asAll, startD, wEq_int, wEq_str, wEq_bl, wBi_len, wBi_abs, wBi_min2, wBi_max2, see_val, see_fresh, see_brw, dat_val, dat_fresh, out_val, out_fresh, out_stt, tru_non, tru_bl, tru_int, tru_lst, tru_tup, tru_fresh, tru_brw, as_vv, as_vf, as_s, as_av, as_af, as_ab, as_bf, as_bb, as_bl, lv_lst, lv_fresh, lv_brw, int_int, len_lst, len_tup, len_frl, len_fresh, len_brw, rd_val, rd_own, rd_bor, rd_stt, it_lst, it_tup, it_frl, it_fresh, it_brw, bin_add, bin_sub, bin_mul, bin_fdiv, bin_mod, bin_pow, bin_str, cat_vv, cat_vf, cat_vb, rep_v, cat_fv, cat_ff, cat_fb, rep_f, cat_bv, cat_bf, cat_bb, rep_b, cmp_eq_vv, cmp_eq_fv, cmp_eq_vf, cmp_eq_ff, cmp_eq_fb, cmp_eq_bv, cmp_eq_vb, cmp_eq_bf, cmp_eq_bb, cmp_ne_vv, cmp_ne_fv, cmp_ne_vf, cmp_ne_ff, cmp_ne_fb, cmp_ne_bv, cmp_ne_vb, cmp_ne_bf, cmp_ne_bb, cmp_lt, cmp_le, cmp_gt, cmp_ge, cmp_is_non, cmp_isn_non, cmp_is_bl, cmp_isn_bl, isNon_non, isNon_int, isNon_str, isNon_lst, isNon_tup, isNon_frl, isNon_obj, isNon_bl, ix_tup, ix_v, ix_f, ix_b, tg_nm, tg_t2, tg_t3, asg_nm, asg_t2, asg_t3, nm_val, nm_fresh, nm_stt, sl_val, sl_brw, sl_stt, ty_int, ty_tt, ty_tv, ty_lv, ty_tf, ty_lf, ty_tb, ty_lb, ty_lt, slc_tup, slc_v, slc_f, slc_b, slc_str, ti, li, p2, it_sq, len_sq, rng_1, rng_2, it_sqR, len_sqR, rd_sqR, as_sqR, rg_length]
    refine ⟨by omega, by omega, ?_⟩
    refine forD_of (fun xs δ => ∃ (ys : List Int) (zs : List (Int × Int)) (s1 s2 s3 s4 : Sl), xs = ys.map D.int ∧ zs.length + ys.length = (1 + many).toNat ∧ (∀ p ∈ zs, p.1 ≤ p.2 ∧ p.2 ≤ p.1 + 2 * l ∧ -2 * (l : Int) ≤ p.1 ∧ p.1 < 3 * l) ∧ δ = [.stt, .val (.int l), .own (zs.map p2), s1, .val (.int way), .val (.int (1 + far)), s2, s3, s4]) ?_ ?_ ⟨rg (1 + many).toNat, [], _, _, _, _, rfl, by simp [rg_length], by simp, rfl⟩
    · rintro δ ⟨ys, zs, s1, s2, s3, s4, e1, e2, e3, rfl⟩
      have : ys = [] := by simpa using e1.symm
      subst this
      simp at e2
      simp [wS, wE, wEs, wT, wC, wO, wIt, wipeD, frzD, Cst.d, asAll, startD, wEq_int, wEq_str, wEq_bl, wBi_len, wBi_abs, wBi_min2, wBi_max2, see_val, see_fresh, see_brw, dat_val, dat_fresh, out_val, out_fresh, out_stt, tru_non, tru_bl, tru_int, tru_lst, tru_tup, tru_fresh, tru_brw, as_vv, as_vf, as_s, as_av, as_af, as_ab, as_bf, as_bb, as_bl, lv_lst, lv_fresh, lv_brw, int_int, len_lst, len_tup, len_frl, len_fresh, len_brw, rd_val, rd_own, rd_bor, rd_stt, it_lst, it_tup, it_frl, it_fresh, it_brw, bin_add, bin_sub, bin_mul, bin_fdiv, bin_mod, bin_pow, bin_str, cat_vv, cat_vf, cat_vb, rep_v, cat_fv, cat_ff, cat_fb, rep_f, cat_bv, cat_bf, cat_bb, rep_b, cmp_eq_vv, cmp_eq_fv, cmp_eq_vf, cmp_eq_ff, cmp_eq_fb, cmp_eq_bv, cmp_eq_vb, cmp_eq_bf, cmp_eq_bb, cmp_ne_vv, cmp_ne_fv, cmp_ne_vf, cmp_ne_ff, cmp_ne_fb, cmp_ne_bv, cmp_ne_vb, cmp_ne_bf, cmp_ne_bb, cmp_lt, cmp_le, cmp_gt, cmp_ge, cmp_is_non, cmp_isn_non, cmp_is_bl, cmp_isn_bl, isNon_non, isNon_int, isNon_str, isNon_lst, isNon_tup, isNon_frl, isNon_obj, isNon_bl, ix_tup, ix_v, ix_f, ix_b, tg_nm, tg_t2, tg_t3, asg_nm, asg_t2, asg_t3, nm_val, nm_fresh, nm_stt, sl_val, sl_brw, sl_stt, ty_int, ty_tt, ty_tv, ty_lv, ty_tf, ty_lf, ty_tb, ty_lb, ty_lt, slc_tup, slc_v, slc_f, slc_b, slc_str, ti, li, p2, it_sq, len_sq, rng_1, rng_2, it_sqR, len_sqR, rd_sqR, as_sqR]
      refine hP _ ⟨zs, ⟨?_, by omega, fun p hp => (e3 p hp).1, fun p hp => (e3 p hp).2.1, fun p hp => (e3 p hp).2.2.1, fun p hp => (e3 p hp).2.2.2⟩, rfl⟩
      rintro rfl
      simp at e2
      omega
    · rintro x xs δ k ⟨ys, zs, s1, s2, s3, s4, e1, e2, e3, rfl⟩ hk
      cases ys with
      | nil => cases e1
      | cons y ys =>
        simp only [List.map_cons, List.cons.injEq] at e1
        obtain ⟨rfl, e1⟩ := e1
        simp at e2
        simp [wS, wE, wEs, wT, wC, wO, wIt, wipeD, frzD, Cst.d, asAll, startD, wEq_int, wEq_str, wEq_bl, wBi_len, wBi_abs, wBi_min2, wBi_max2, see_val, see_fresh, see_brw, dat_val, dat_fresh, out_val, out_fresh, out_stt, tru_non, tru_bl, tru_int, tru_lst, tru_tup, tru_fresh, tru_brw, as_vv, as_vf, as_s, as_av, as_af, as_ab, as_bf, as_bb, as_bl, lv_lst, lv_fresh, lv_brw, int_int, len_lst, len_tup, len_frl, len_fresh, len_brw, rd_val, rd_own, rd_bor, rd_stt, it_lst, it_tup, it_frl, it_fresh, it_brw, bin_add, bin_sub, bin_mul, bin_fdiv, bin_mod, bin_pow, bin_str, cat_vv, cat_vf, cat_vb, rep_v, cat_fv, cat_ff, cat_fb, rep_f, cat_bv, cat_bf, cat_bb, rep_b, cmp_eq_vv, cmp_eq_fv, cmp_eq_vf, cmp_eq_ff, cmp_eq_fb, cmp_eq_bv, cmp_eq_vb, cmp_eq_bf, cmp_eq_bb, cmp_ne_vv, cmp_ne_fv, cmp_ne_vf, cmp_ne_ff, cmp_ne_fb, cmp_ne_bv, cmp_ne_vb, cmp_ne_bf, cmp_ne_bb, cmp_lt, cmp_le, cmp_gt, cmp_ge, cmp_is_non, cmp_isn_non, cmp_is_bl, cmp_isn_bl, isNon_non, isNon_int, isNon_str, isNon_lst, isNon_tup, isNon_frl, isNon_obj, isNon_bl, ix_tup, ix_v, ix_f, ix_b, tg_nm, tg_t2, tg_t3, asg_nm, asg_t2, asg_t3, nm_val, nm_fresh, nm_stt, sl_val, sl_brw, sl_stt, ty_int, ty_tt, ty_tv, ty_lv, ty_tf, ty_lf, ty_tb, ty_lb, ty_lt, slc_tup, slc_v, slc_f, slc_b, slc_str, ti, li, p2, it_sq, len_sq, rng_1, rng_2, it_sqR, len_sqR, rd_sqR, as_sqR, h1.1]
        refine draw_call (by omega) (by omega) fun a a1 a2 => ?_
        simp [wS, wE, wEs, wT, wC, wO, wIt, wipeD, frzD, Cst.d, asAll, startD, wEq_int, wEq_str, wEq_bl, wBi_len, wBi_abs, wBi_min2, wBi_max2, see_val, see_fresh, see_brw, dat_val, dat_fresh, out_val, out_fresh, out_stt, tru_non, tru_bl, tru_int, tru_lst, tru_tup, tru_fresh, tru_brw, as_vv, as_vf, as_s, as_av, as_af, as_ab, as_bf, as_bb, as_bl, lv_lst, lv_fresh, lv_brw, int_int, len_lst, len_tup, len_frl, len_fresh, len_brw, rd_val, rd_own, rd_bor, rd_stt, it_lst, it_tup, it_frl, it_fresh, it_brw, bin_add, bin_sub, bin_mul, bin_fdiv, bin_mod, bin_pow, bin_str, cat_vv, cat_vf, cat_vb, rep_v, cat_fv, cat_ff, cat_fb, rep_f, cat_bv, cat_bf, cat_bb, rep_b, cmp_eq_vv, cmp_eq_fv, cmp_eq_vf, cmp_eq_ff, cmp_eq_fb, cmp_eq_bv, cmp_eq_vb, cmp_eq_bf, cmp_eq_bb, cmp_ne_vv, cmp_ne_fv, cmp_ne_vf, cmp_ne_ff, cmp_ne_fb, cmp_ne_bv, cmp_ne_vb, cmp_ne_bf, cmp_ne_bb, cmp_lt, cmp_le, cmp_gt, cmp_ge, cmp_is_non, cmp_isn_non, cmp_is_bl, cmp_isn_bl, isNon_non, isNon_int, isNon_str, isNon_lst, isNon_tup, isNon_frl, isNon_obj, isNon_bl, ix_tup, ix_v, ix_f, ix_b, tg_nm, tg_t2, tg_t3, asg_nm, asg_t2, asg_t3, nm_val, nm_fresh, nm_stt, sl_val, sl_brw, sl_stt, ty_int, ty_tt, ty_tv, ty_lv, ty_tf, ty_lf, ty_tb, ty_lb, ty_lt, slc_tup, slc_v, slc_f, slc_b, slc_str, ti, li, p2, it_sq, len_sq, rng_1, rng_2, it_sqR, len_sqR, rd_sqR, as_sqR]
        refine draw_call (by omega) (by omega) fun b b1 b2 => ?_
        simp [wS, wE, wEs, wT, wC, wO, wIt, wipeD, frzD, Cst.d, asAll, startD, wEq_int, wEq_str, wEq_bl, wBi_len, wBi_abs, wBi_min2, wBi_max2, see_val, see_fresh, see_brw, dat_val, dat_fresh, out_val, out_fresh, out_stt, tru_non, tru_bl, tru_int, tru_lst, tru_tup, tru_fresh, tru_brw, as_vv, as_vf, as_s, as_av, as_af, as_ab, as_bf, as_bb, as_bl, lv_lst, lv_fresh, lv_brw, int_int, len_lst, len_tup, len_frl, len_fresh, len_brw, rd_val, rd_own, rd_bor, rd_stt, it_lst, it_tup, it_frl, it_fresh, it_brw, bin_add, bin_sub, bin_mul, bin_fdiv, bin_mod, bin_pow, bin_str, cat_vv, cat_vf, cat_vb, rep_v, cat_fv, cat_ff, cat_fb, rep_f, cat_bv, cat_bf, cat_bb, rep_b, cmp_eq_vv, cmp_eq_fv, cmp_eq_vf, cmp_eq_ff, cmp_eq_fb, cmp_eq_bv, cmp_eq_vb, cmp_eq_bf, cmp_eq_bb, cmp_ne_vv, cmp_ne_fv, cmp_ne_vf, cmp_ne_ff, cmp_ne_fb, cmp_ne_bv, cmp_ne_vb, cmp_ne_bf, cmp_ne_bb, cmp_lt, cmp_le, cmp_gt, cmp_ge, cmp_is_non, cmp_isn_non, cmp_is_bl, cmp_isn_bl, isNon_non, isNon_int, isNon_str, isNon_lst, isNon_tup, isNon_frl, isNon_obj, isNon_bl, ix_tup, ix_v, ix_f, ix_b, tg_nm, tg_t2, tg_t3, asg_nm, asg_t2, asg_t3, nm_val, nm_fresh, nm_stt, sl_val, sl_brw, sl_stt, ty_int, ty_tt, ty_tv, ty_lv, ty_tf, ty_lf, ty_tb, ty_lb, ty_lt, slc_tup, slc_v, slc_f, slc_b, slc_str, ti, li, p2, it_sq, len_sq, rng_1, rng_2, it_sqR, len_sqR, rd_sqR, as_sqR]
        refine ⟨.inl ⟨by omega, by omega⟩, ?_⟩
        refine draw_call (by omega) (by omega) fun c c1 c2 => ?_
        simp [wS, wE, wEs, wT, wC, wO, wIt, wipeD, frzD, Cst.d, asAll, startD, wEq_int, wEq_str, wEq_bl, wBi_len, wBi_abs, wBi_min2, wBi_max2, see_val, see_fresh, see_brw, dat_val, dat_fresh, out_val, out_fresh, out_stt, tru_non, tru_bl, tru_int, tru_lst, tru_tup, tru_fresh, tru_brw, as_vv, as_vf, as_s, as_av, as_af, as_ab, as_bf, as_bb, as_bl, lv_lst, lv_fresh, lv_brw, int_int, len_lst, len_tup, len_frl, len_fresh, len_brw, rd_val, rd_own, rd_bor, rd_stt, it_lst, it_tup, it_frl, it_fresh, it_brw, bin_add, bin_sub, bin_mul, bin_fdiv, bin_mod, bin_pow, bin_str, cat_vv, cat_vf, cat_vb, rep_v, cat_fv, cat_ff, cat_fb, rep_f, cat_bv, cat_bf, cat_bb, rep_b, cmp_eq_vv, cmp_eq_fv, cmp_eq_vf, cmp_eq_ff, cmp_eq_fb, cmp_eq_bv, cmp_eq_vb, cmp_eq_bf, cmp_eq_bb, cmp_ne_vv, cmp_ne_fv, cmp_ne_vf, cmp_ne_ff, cmp_ne_fb, cmp_ne_bv, cmp_ne_vb, cmp_ne_bf, cmp_ne_bb, cmp_lt, cmp_le, cmp_gt, cmp_ge, cmp_is_non, cmp_isn_non, cmp_is_bl, cmp_isn_bl, isNon_non, isNon_int, isNon_str, isNon_lst, isNon_tup, isNon_frl, isNon_obj, isNon_bl, ix_tup, ix_v, ix_f, ix_b, tg_nm, tg_t2, tg_t3, asg_nm, asg_t2, asg_t3, nm_val, nm_fresh, nm_stt, sl_val, sl_brw, sl_stt, ty_int, ty_tt, ty_tv, ty_lv, ty_tf, ty_lf, ty_tb, ty_lb, ty_lt, slc_tup, slc_v, slc_f, slc_b, slc_str, ti, li, p2, it_sq, len_sq, rng_1, rng_2, it_sqR, len_sqR, rd_sqR, as_sqR, z2]
        have hm1 : (l : Int) * (b - 2) ≤ l * 2 := Int.mul_le_mul_of_nonneg_left (by omega) (by omega)
        have hm2 : (l : Int) * (-2) ≤ l * (b - 2) := Int.mul_le_mul_of_nonneg_left (by omega) (by omega)
        refine ⟨Nat.lt_of_le_of_lt (m := 60) (by omega) (size_big (by omega)), hk _ ⟨ys, zs ++ [(a + l * (b - 2), a + l * (b - 2) + c)], .val (.int y), s2, .val (.int (a + l * (b - 2))), s4, e1, by simp; omega, ?_, by simp⟩⟩
        intro p hp
        rcases List.mem_append.mp hp with hp | hp
        · exact e3 p hp
        · simp only [List.mem_cons, List.not_mem_nil, or_false] at hp
          subst hp
          simp only
          omega
theorem put_keeps (h1 : KnF C "_law_go" fsGo 0) : Keeps C ir_law_put n_law_put ["word", "one", "two"] fsPut := by
  refine keeps_of fun a P X hd hP => ⟨rfl, ?_⟩
  obtain ⟨w, xs, ys⟩ := a
  have hP : P (.fresh ((putE w xs ys).map D.int)) := hP _ rfl
  obtain ⟨⟨k1, k2⟩, k3⟩ := hd
  simp only at k1 k2 k3
  cases w
  · simp [ir_law_put, n_law_put, wS, wE, wEs, wT, wC, wO, wIt, wipeD, frzD, Cst.d, asAll, startD, wEq_int, wEq_str, wEq_bl, wBi_len, wBi_abs, wBi_min2, wBi_max2, see_val, see_fresh, see_brw, dat_val, dat_fresh, out_val, out_fresh, out_stt, tru_non, tru_bl, tru_int, tru_lst, tru_tup, tru_fresh, tru_brw, as_vv, as_vf, as_s, as_av, as_af, as_ab, as_bf, as_bb, as_bl, lv_lst, lv_fresh, lv_brw, int_int, len_lst, len_tup, len_frl, len_fresh, len_brw, rd_val, rd_own, rd_bor, rd_stt, it_lst, it_tup, it_frl, it_fresh, it_brw, bin_add, bin_sub, bin_mul, bin_fdiv, bin_mod, bin_pow, bin_str, cat_vv, cat_vf, cat_vb, rep_v, cat_fv, cat_ff, cat_fb, rep_f, cat_bv, cat_bf, cat_bb, rep_b, cmp_eq_vv, cmp_eq_fv, cmp_eq_vf, cmp_eq_ff, cmp_eq_fb, cmp_eq_bv, cmp_eq_vb, cmp_eq_bf, cmp_eq_bb, cmp_ne_vv, cmp_ne_fv, cmp_ne_vf, cmp_ne_ff, cmp_ne_fb, cmp_ne_bv, cmp_ne_vb, cmp_ne_bf, cmp_ne_bb, cmp_lt, cmp_le, cmp_gt, cmp_ge, cmp_is_non, cmp_isn_non, cmp_is_bl, cmp_isn_bl, isNon_non, isNon_int, isNon_str, isNon_lst, isNon_tup, isNon_frl, isNon_obj, isNon_bl, ix_tup, ix_v, ix_f, ix_b, tg_nm, tg_t2, tg_t3, asg_nm, asg_t2, asg_t3, nm_val, nm_fresh, nm_stt, sl_val, sl_brw, sl_stt, ty_int, ty_tt, ty_tv, ty_lv, ty_tf, ty_lf, ty_tb, ty_lb, ty_lt, slc_tup, slc_v, slc_f, slc_b, slc_str, ti, li, p2, it_sq, len_sq, rng_1, rng_2, it_sqR, len_sqR, rd_sqR, as_sqR, PutW.s, h1.1, costE, h1.2]
    refine ⟨size_big (by omega), ?_⟩
    refine walk_map (g := D.int) (f := fun e => .int (lawGo ys e)) (fun n hn acc k hk => ?_) ?_
    · refine wcall_of (α := Bool × List Int × Int) (false, ys, n) rfl ⟨by show 1 ≤ ys.length; omega, by show ys.length ≤ 60; omega⟩ ?_
      rintro r rfl
      simpa [wS, wE, wEs, wT, wC, wO, wIt, wipeD, frzD, Cst.d, asAll, startD, wEq_int, wEq_str, wEq_bl, wBi_len, wBi_abs, wBi_min2, wBi_max2, see_val, see_fresh, see_brw, dat_val, dat_fresh, out_val, out_fresh, out_stt, tru_non, tru_bl, tru_int, tru_lst, tru_tup, tru_fresh, tru_brw, as_vv, as_vf, as_s, as_av, as_af, as_ab, as_bf, as_bb, as_bl, lv_lst, lv_fresh, lv_brw, int_int, len_lst, len_tup, len_frl, len_fresh, len_brw, rd_val, rd_own, rd_bor, rd_stt, it_lst, it_tup, it_frl, it_fresh, it_brw, bin_add, bin_sub, bin_mul, bin_fdiv, bin_mod, bin_pow, bin_str, cat_vv, cat_vf, cat_vb, rep_v, cat_fv, cat_ff, cat_fb, rep_f, cat_bv, cat_bf, cat_bb, rep_b, cmp_eq_vv, cmp_eq_fv, cmp_eq_vf, cmp_eq_ff, cmp_eq_fb, cmp_eq_bv, cmp_eq_vb, cmp_eq_bf, cmp_eq_bb, cmp_ne_vv, cmp_ne_fv, cmp_ne_vf, cmp_ne_ff, cmp_ne_fb, cmp_ne_bv, cmp_ne_vb, cmp_ne_bf, cmp_ne_bb, cmp_lt, cmp_le, cmp_gt, cmp_ge, cmp_is_non, cmp_isn_non, cmp_is_bl, cmp_isn_bl, isNon_non, isNon_int, isNon_str, isNon_lst, isNon_tup, isNon_frl, isNon_obj, isNon_bl, ix_tup, ix_v, ix_f, ix_b, tg_nm, tg_t2, tg_t3, asg_nm, asg_t2, asg_t3, nm_val, nm_fresh, nm_stt, sl_val, sl_brw, sl_stt, ty_int, ty_tt, ty_tv, ty_lv, ty_tf, ty_lf, ty_tb, ty_lb, ty_lt, slc_tup, slc_v, slc_f, slc_b, slc_str, ti, li, p2, it_sq, len_sq, rng_1, rng_2, it_sqR, len_sqR, rd_sqR, as_sqR] using hk
    · simpa [putE, wS, wE, wEs, wT, wC, wO, wIt, wipeD, frzD, Cst.d, asAll, startD, wEq_int, wEq_str, wEq_bl, wBi_len, wBi_abs, wBi_min2, wBi_max2, see_val, see_fresh, see_brw, dat_val, dat_fresh, out_val, out_fresh, out_stt, tru_non, tru_bl, tru_int, tru_lst, tru_tup, tru_fresh, tru_brw, as_vv, as_vf, as_s, as_av, as_af, as_ab, as_bf, as_bb, as_bl, lv_lst, lv_fresh, lv_brw, int_int, len_lst, len_tup, len_frl, len_fresh, len_brw, rd_val, rd_own, rd_bor, rd_stt, it_lst, it_tup, it_frl, it_fresh, it_brw, bin_add, bin_sub, bin_mul, bin_fdiv, bin_mod, bin_pow, bin_str, cat_vv, cat_vf, cat_vb, rep_v, cat_fv, cat_ff, cat_fb, rep_f, cat_bv, cat_bf, cat_bb, rep_b, cmp_eq_vv, cmp_eq_fv, cmp_eq_vf, cmp_eq_ff, cmp_eq_fb, cmp_eq_bv, cmp_eq_vb, cmp_eq_bf, cmp_eq_bb, cmp_ne_vv, cmp_ne_fv, cmp_ne_vf, cmp_ne_ff, cmp_ne_fb, cmp_ne_bv, cmp_ne_vb, cmp_ne_bf, cmp_ne_bb, cmp_lt, cmp_le, cmp_gt, cmp_ge, cmp_is_non, cmp_isn_non, cmp_is_bl, cmp_isn_bl, isNon_non, isNon_int, isNon_str, isNon_lst, isNon_tup, isNon_frl, isNon_obj, isNon_bl, ix_tup, ix_v, ix_f, ix_b, tg_nm, tg_t2, tg_t3, asg_nm, asg_t2, asg_t3, nm_val, nm_fresh, nm_stt, sl_val, sl_brw, sl_stt, ty_int, ty_tt, ty_tv, ty_lv, ty_tf, ty_lf, ty_tb, ty_lb, ty_lt, slc_tup, slc_v, slc_f, slc_b, slc_str, ti, li, p2, it_sq, len_sq, rng_1, rng_2, it_sqR, len_sqR, rd_sqR, as_sqR, Function.comp_def] using hP
  · simp [ir_law_put, n_law_put, wS, wE, wEs, wT, wC, wO, wIt, wipeD, frzD, Cst.d, asAll, startD, wEq_int, wEq_str, wEq_bl, wBi_len, wBi_abs, wBi_min2, wBi_max2, see_val, see_fresh, see_brw, dat_val, dat_fresh, out_val, out_fresh, out_stt, tru_non, tru_bl, tru_int, tru_lst, tru_tup, tru_fresh, tru_brw, as_vv, as_vf, as_s, as_av, as_af, as_ab, as_bf, as_bb, as_bl, lv_lst, lv_fresh, lv_brw, int_int, len_lst, len_tup, len_frl, len_fresh, len_brw, rd_val, rd_own, rd_bor, rd_stt, it_lst, it_tup, it_frl, it_fresh, it_brw, bin_add, bin_sub, bin_mul, bin_fdiv, bin_mod, bin_pow, bin_str, cat_vv, cat_vf, cat_vb, rep_v, cat_fv, cat_ff, cat_fb, rep_f, cat_bv, cat_bf, cat_bb, rep_b, cmp_eq_vv, cmp_eq_fv, cmp_eq_vf, cmp_eq_ff, cmp_eq_fb, cmp_eq_bv, cmp_eq_vb, cmp_eq_bf, cmp_eq_bb, cmp_ne_vv, cmp_ne_fv, cmp_ne_vf, cmp_ne_ff, cmp_ne_fb, cmp_ne_bv, cmp_ne_vb, cmp_ne_bf, cmp_ne_bb, cmp_lt, cmp_le, cmp_gt, cmp_ge, cmp_is_non, cmp_isn_non, cmp_is_bl, cmp_isn_bl, isNon_non, isNon_int, isNon_str, isNon_lst, isNon_tup, isNon_frl, isNon_obj, isNon_bl, ix_tup, ix_v, ix_f, ix_b, tg_nm, tg_t2, tg_t3, asg_nm, asg_t2, asg_t3, nm_val, nm_fresh, nm_stt, sl_val, sl_brw, sl_stt, ty_int, ty_tt, ty_tv, ty_lv, ty_tf, ty_lf, ty_tb, ty_lb, ty_lt, slc_tup, slc_v, slc_f, slc_b, slc_str, ti, li, p2, it_sq, len_sq, rng_1, rng_2, it_sqR, len_sqR, rd_sqR, as_sqR, PutW.s, then_ne, zipD_ints, costE]
    refine ⟨size_big (by omega), ?_⟩
    refine walk_map (g := p2) (f := fun p => .int (min p.1 p.2)) (fun p hp acc k hk => ?_) ?_
    · refine wmin_of (ns := [p.1, p.2]) rfl (by simp) ?_
      rw [mn2]
      simpa [wS, wE, wEs, wT, wC, wO, wIt, wipeD, frzD, Cst.d, asAll, startD, wEq_int, wEq_str, wEq_bl, wBi_len, wBi_abs, wBi_min2, wBi_max2, see_val, see_fresh, see_brw, dat_val, dat_fresh, out_val, out_fresh, out_stt, tru_non, tru_bl, tru_int, tru_lst, tru_tup, tru_fresh, tru_brw, as_vv, as_vf, as_s, as_av, as_af, as_ab, as_bf, as_bb, as_bl, lv_lst, lv_fresh, lv_brw, int_int, len_lst, len_tup, len_frl, len_fresh, len_brw, rd_val, rd_own, rd_bor, rd_stt, it_lst, it_tup, it_frl, it_fresh, it_brw, bin_add, bin_sub, bin_mul, bin_fdiv, bin_mod, bin_pow, bin_str, cat_vv, cat_vf, cat_vb, rep_v, cat_fv, cat_ff, cat_fb, rep_f, cat_bv, cat_bf, cat_bb, rep_b, cmp_eq_vv, cmp_eq_fv, cmp_eq_vf, cmp_eq_ff, cmp_eq_fb, cmp_eq_bv, cmp_eq_vb, cmp_eq_bf, cmp_eq_bb, cmp_ne_vv, cmp_ne_fv, cmp_ne_vf, cmp_ne_ff, cmp_ne_fb, cmp_ne_bv, cmp_ne_vb, cmp_ne_bf, cmp_ne_bb, cmp_lt, cmp_le, cmp_gt, cmp_ge, cmp_is_non, cmp_isn_non, cmp_is_bl, cmp_isn_bl, isNon_non, isNon_int, isNon_str, isNon_lst, isNon_tup, isNon_frl, isNon_obj, isNon_bl, ix_tup, ix_v, ix_f, ix_b, tg_nm, tg_t2, tg_t3, asg_nm, asg_t2, asg_t3, nm_val, nm_fresh, nm_stt, sl_val, sl_brw, sl_stt, ty_int, ty_tt, ty_tv, ty_lv, ty_tf, ty_lf, ty_tb, ty_lb, ty_lt, slc_tup, slc_v, slc_f, slc_b, slc_str, ti, li, p2, it_sq, len_sq, rng_1, rng_2, it_sqR, len_sqR, rd_sqR, as_sqR] using hk
    · simpa [putE, minE, wS, wE, wEs, wT, wC, wO, wIt, wipeD, frzD, Cst.d, asAll, startD, wEq_int, wEq_str, wEq_bl, wBi_len, wBi_abs, wBi_min2, wBi_max2, see_val, see_fresh, see_brw, dat_val, dat_fresh, out_val, out_fresh, out_stt, tru_non, tru_bl, tru_int, tru_lst, tru_tup, tru_fresh, tru_brw, as_vv, as_vf, as_s, as_av, as_af, as_ab, as_bf, as_bb, as_bl, lv_lst, lv_fresh, lv_brw, int_int, len_lst, len_tup, len_frl, len_fresh, len_brw, rd_val, rd_own, rd_bor, rd_stt, it_lst, it_tup, it_frl, it_fresh, it_brw, bin_add, bin_sub, bin_mul, bin_fdiv, bin_mod, bin_pow, bin_str, cat_vv, cat_vf, cat_vb, rep_v, cat_fv, cat_ff, cat_fb, rep_f, cat_bv, cat_bf, cat_bb, rep_b, cmp_eq_vv, cmp_eq_fv, cmp_eq_vf, cmp_eq_ff, cmp_eq_fb, cmp_eq_bv, cmp_eq_vb, cmp_eq_bf, cmp_eq_bb, cmp_ne_vv, cmp_ne_fv, cmp_ne_vf, cmp_ne_ff, cmp_ne_fb, cmp_ne_bv, cmp_ne_vb, cmp_ne_bf, cmp_ne_bb, cmp_lt, cmp_le, cmp_gt, cmp_ge, cmp_is_non, cmp_isn_non, cmp_is_bl, cmp_isn_bl, isNon_non, isNon_int, isNon_str, isNon_lst, isNon_tup, isNon_frl, isNon_obj, isNon_bl, ix_tup, ix_v, ix_f, ix_b, tg_nm, tg_t2, tg_t3, asg_nm, asg_t2, asg_t3, nm_val, nm_fresh, nm_stt, sl_val, sl_brw, sl_stt, ty_int, ty_tt, ty_tv, ty_lv, ty_tf, ty_lf, ty_tb, ty_lb, ty_lt, slc_tup, slc_v, slc_f, slc_b, slc_str, ti, li, p2, it_sq, len_sq, rng_1, rng_2, it_sqR, len_sqR, rd_sqR, as_sqR, Function.comp_def] using hP
  · simp [ir_law_put, n_law_put, wS, wE, wEs, wT, wC, wO, wIt, wipeD, frzD, Cst.d, asAll, startD, wEq_int, wEq_str, wEq_bl, wBi_len, wBi_abs, wBi_min2, wBi_max2, see_val, see_fresh, see_brw, dat_val, dat_fresh, out_val, out_fresh, out_stt, tru_non, tru_bl, tru_int, tru_lst, tru_tup, tru_fresh, tru_brw, as_vv, as_vf, as_s, as_av, as_af, as_ab, as_bf, as_bb, as_bl, lv_lst, lv_fresh, lv_brw, int_int, len_lst, len_tup, len_frl, len_fresh, len_brw, rd_val, rd_own, rd_bor, rd_stt, it_lst, it_tup, it_frl, it_fresh, it_brw, bin_add, bin_sub, bin_mul, bin_fdiv, bin_mod, bin_pow, bin_str, cat_vv, cat_vf, cat_vb, rep_v, cat_fv, cat_ff, cat_fb, rep_f, cat_bv, cat_bf, cat_bb, rep_b, cmp_eq_vv, cmp_eq_fv, cmp_eq_vf, cmp_eq_ff, cmp_eq_fb, cmp_eq_bv, cmp_eq_vb, cmp_eq_bf, cmp_eq_bb, cmp_ne_vv, cmp_ne_fv, cmp_ne_vf, cmp_ne_ff, cmp_ne_fb, cmp_ne_bv, cmp_ne_vb, cmp_ne_bf, cmp_ne_bb, cmp_lt, cmp_le, cmp_gt, cmp_ge, cmp_is_non, cmp_isn_non, cmp_is_bl, cmp_isn_bl, isNon_non, isNon_int, isNon_str, isNon_lst, isNon_tup, isNon_frl, isNon_obj, isNon_bl, ix_tup, ix_v, ix_f, ix_b, tg_nm, tg_t2, tg_t3, asg_nm, asg_t2, asg_t3, nm_val, nm_fresh, nm_stt, sl_val, sl_brw, sl_stt, ty_int, ty_tt, ty_tv, ty_lv, ty_tf, ty_lf, ty_tb, ty_lb, ty_lt, slc_tup, slc_v, slc_f, slc_b, slc_str, ti, li, p2, it_sq, len_sq, rng_1, rng_2, it_sqR, len_sqR, rd_sqR, as_sqR, PutW.s, slower_ne, slower_ne2, zipD_ints, costE]
    refine ⟨size_big (by omega), ?_⟩
    refine walk_map (g := p2) (f := fun p => .int (max p.1 p.2)) (fun p hp acc k hk => ?_) ?_
    · refine wmax_of (ns := [p.1, p.2]) rfl (by simp) ?_
      rw [mx2]
      simpa [wS, wE, wEs, wT, wC, wO, wIt, wipeD, frzD, Cst.d, asAll, startD, wEq_int, wEq_str, wEq_bl, wBi_len, wBi_abs, wBi_min2, wBi_max2, see_val, see_fresh, see_brw, dat_val, dat_fresh, out_val, out_fresh, out_stt, tru_non, tru_bl, tru_int, tru_lst, tru_tup, tru_fresh, tru_brw, as_vv, as_vf, as_s, as_av, as_af, as_ab, as_bf, as_bb, as_bl, lv_lst, lv_fresh, lv_brw, int_int, len_lst, len_tup, len_frl, len_fresh, len_brw, rd_val, rd_own, rd_bor, rd_stt, it_lst, it_tup, it_frl, it_fresh, it_brw, bin_add, bin_sub, bin_mul, bin_fdiv, bin_mod, bin_pow, bin_str, cat_vv, cat_vf, cat_vb, rep_v, cat_fv, cat_ff, cat_fb, rep_f, cat_bv, cat_bf, cat_bb, rep_b, cmp_eq_vv, cmp_eq_fv, cmp_eq_vf, cmp_eq_ff, cmp_eq_fb, cmp_eq_bv, cmp_eq_vb, cmp_eq_bf, cmp_eq_bb, cmp_ne_vv, cmp_ne_fv, cmp_ne_vf, cmp_ne_ff, cmp_ne_fb, cmp_ne_bv, cmp_ne_vb, cmp_ne_bf, cmp_ne_bb, cmp_lt, cmp_le, cmp_gt, cmp_ge, cmp_is_non, cmp_isn_non, cmp_is_bl, cmp_isn_bl, isNon_non, isNon_int, isNon_str, isNon_lst, isNon_tup, isNon_frl, isNon_obj, isNon_bl, ix_tup, ix_v, ix_f, ix_b, tg_nm, tg_t2, tg_t3, asg_nm, asg_t2, asg_t3, nm_val, nm_fresh, nm_stt, sl_val, sl_brw, sl_stt, ty_int, ty_tt, ty_tv, ty_lv, ty_tf, ty_lf, ty_tb, ty_lb, ty_lt, slc_tup, slc_v, slc_f, slc_b, slc_str, ti, li, p2, it_sq, len_sq, rng_1, rng_2, it_sqR, len_sqR, rd_sqR, as_sqR] using hk
    · simpa [putE, maxE, wS, wE, wEs, wT, wC, wO, wIt, wipeD, frzD, Cst.d, asAll, startD, wEq_int, wEq_str, wEq_bl, wBi_len, wBi_abs, wBi_min2, wBi_max2, see_val, see_fresh, see_brw, dat_val, dat_fresh, out_val, out_fresh, out_stt, tru_non, tru_bl, tru_int, tru_lst, tru_tup, tru_fresh, tru_brw, as_vv, as_vf, as_s, as_av, as_af, as_ab, as_bf, as_bb, as_bl, lv_lst, lv_fresh, lv_brw, int_int, len_lst, len_tup, len_frl, len_fresh, len_brw, rd_val, rd_own, rd_bor, rd_stt, it_lst, it_tup, it_frl, it_fresh, it_brw, bin_add, bin_sub, bin_mul, bin_fdiv, bin_mod, bin_pow, bin_str, cat_vv, cat_vf, cat_vb, rep_v, cat_fv, cat_ff, cat_fb, rep_f, cat_bv, cat_bf, cat_bb, rep_b, cmp_eq_vv, cmp_eq_fv, cmp_eq_vf, cmp_eq_ff, cmp_eq_fb, cmp_eq_bv, cmp_eq_vb, cmp_eq_bf, cmp_eq_bb, cmp_ne_vv, cmp_ne_fv, cmp_ne_vf, cmp_ne_ff, cmp_ne_fb, cmp_ne_bv, cmp_ne_vb, cmp_ne_bf, cmp_ne_bb, cmp_lt, cmp_le, cmp_gt, cmp_ge, cmp_is_non, cmp_isn_non, cmp_is_bl, cmp_isn_bl, isNon_non, isNon_int, isNon_str, isNon_lst, isNon_tup, isNon_frl, isNon_obj, isNon_bl, ix_tup, ix_v, ix_f, ix_b, tg_nm, tg_t2, tg_t3, asg_nm, asg_t2, asg_t3, nm_val, nm_fresh, nm_stt, sl_val, sl_brw, sl_stt, ty_int, ty_tt, ty_tv, ty_lv, ty_tf, ty_lf, ty_tb, ty_lb, ty_lt, slc_tup, slc_v, slc_f, slc_b, slc_str, ti, li, p2, it_sq, len_sq, rng_1, rng_2, it_sqR, len_sqR, rd_sqR, as_sqR, Function.comp_def] using hP
theorem obn_call {o : Operator} {m : Str} {fs : FS} {xs ys : List Int} {P : R → Prop} {X : XD → Prop} (ho : C.own "Daily" = true) (hm : C.me "Daily" m = some fs) (e : PySem.dunder o.info.2 = m) (h : wCall fs [.val (dailyD xs), .val (dailyD ys)] (fun r => r.out = true ∧ P r) X) : wOp2 C (.obn o "Daily") (.val (dailyD xs)) (.val (dailyD ys)) P X := by
  refine ⟨rfl, rfl, ho, ?_⟩
  rw [e, hm]
  exact h
theorem ocm_call {o : CmO} {m : Str} {fs : FS} {xs ys : List Int} {P : R → Prop} {X : XD → Prop} (hm : C.me "Daily" m = some fs) (e : (cmpInfo o.op).2.1 = m) (h : wCall fs [.val (dailyD xs), .val (dailyD ys)] (fun r => r.out = true ∧ P r) X) : wOp2 C (.ocm o "Daily") (.val (dailyD xs)) (.val (dailyD ys)) P X := by
  refine ⟨rfl, rfl, ?_⟩
  rw [e, hm]
  exact h
theorem one_call {fs : FS} {xs ys : List Int} {P : R → Prop} {X : XD → Prop} (ho : C.own "Daily" = true) (hm : C.me "Daily" "__eq__" = some fs) (h : wCall fs [.val (dailyD xs), .val (dailyD ys)] (fun r => match r with | .val (.bl b) => P (.val (.bl (!b))) | _ => False) X) : wOp2 C (.one "Daily") (.val (dailyD xs)) (.val (dailyD ys)) P X := by
  refine ⟨rfl, rfl, ho, ?_⟩
  rw [hm]
  exact h
theorem mul_d {xs ys : List Int} {P : R → Prop} {X : XD → Prop} (ho : C.own "Daily" = true) (hm : KnM C "Daily" "__mul__" fsDMul 0) (h1 : small xs) (h2 : ys.length = xs.length) (h3 : okEnds (thenE xs ys)) (h : P (.val (dailyD (endsOf xs.length (en (thenE xs ys)))))) : wOp2 C (.obn .Mult "Daily") (.val (dailyD xs)) (.val (dailyD ys)) P X :=
  obn_call ho hm.1 (by decide +kernel) (wcall_of (α := List Int × List Int) (xs, ys) rfl ⟨⟨h1, h2⟩, h3⟩ (by rintro r rfl; exact ⟨rfl, h⟩))
theorem or_d {xs ys : List Int} {P : R → Prop} {X : XD → Prop} (ho : C.own "Daily" = true) (hm : KnM C "Daily" "__or__" fsDOr 0) (h1 : small xs) (h2 : ys.length = xs.length) (h3 : okEnds (minE xs ys)) (h : P (.val (dailyD (endsOf xs.length (en (minE xs ys)))))) : wOp2 C (.obn .BitOr "Daily") (.val (dailyD xs)) (.val (dailyD ys)) P X :=
  obn_call ho hm.1 (by decide +kernel) (wcall_of (α := List Int × List Int) (xs, ys) rfl ⟨⟨h1, h2⟩, h3⟩ (by rintro r rfl; exact ⟨rfl, h⟩))
theorem and_d {xs ys : List Int} {P : R → Prop} {X : XD → Prop} (ho : C.own "Daily" = true) (hm : KnM C "Daily" "__and__" fsDAnd 0) (h1 : small xs) (h2 : ys.length = xs.length) (h3 : okEnds (maxE xs ys)) (h : P (.val (dailyD (endsOf xs.length (en (maxE xs ys)))))) : wOp2 C (.obn .BitAnd "Daily") (.val (dailyD xs)) (.val (dailyD ys)) P X :=
  obn_call ho hm.1 (by decide +kernel) (wcall_of (α := List Int × List Int) (xs, ys) rfl ⟨⟨h1, h2⟩, h3⟩ (by rintro r rfl; exact ⟨rfl, h⟩))
theorem le_d {xs ys : List Int} {P : R → Prop} {X : XD → Prop} (hm : KnM C "Daily" "__le__" fsDLe 0) (h1 : small xs) (h2 : ys.length = xs.length) (h : P (.val (.bl (leE xs ys)))) : wOp2 C (.ocm .le "Daily") (.val (dailyD xs)) (.val (dailyD ys)) P X :=
  ocm_call hm.1 (by decide +kernel) (wcall_of (α := List Int × List Int) (xs, ys) rfl ⟨h1, h2⟩ (by rintro r rfl; exact ⟨rfl, h⟩))
theorem eq_d {xs ys : List Int} {P : R → Prop} {X : XD → Prop} (hm : KnM C "Daily" "__eq__" fsDEq 0) (h : P (.val (.bl (decide (xs = ys))))) : wOp2 C (.ocm .eq "Daily") (.val (dailyD xs)) (.val (dailyD ys)) P X :=
  ocm_call hm.1 (by decide +kernel) (wcall_of (α := List Int × (List Int ⊕ List D)) (xs, .inl ys) rfl trivial (by rintro r rfl; exact ⟨rfl, h⟩))
theorem eqv_d {xs : List Int} {ys : List D} {P : R → Prop} {X : XD → Prop} (hm : KnM C "Daily" "__eq__" fsDEq 0) (h : P (.val (.bl false))) : wOp2 C (.ocv .eq "Daily") (.val (dailyD xs)) (.val (.tup ys)) P X := by
  refine ⟨rfl, ?_⟩
  rw [show (cmpInfo CmO.eq.op).2.1 = ("__eq__" : Str) from by decide +kernel, hm.1]
  exact wcall_of (α := List Int × (List Int ⊕ List D)) (xs, .inr ys) rfl trivial (by rintro r rfl; exact ⟨rfl, h⟩)
theorem ne_d {xs ys : List Int} {P : R → Prop} {X : XD → Prop} (ho : C.own "Daily" = true) (hm : KnM C "Daily" "__eq__" fsDEq 0) (h : P (.val (.bl (!decide (xs = ys))))) : wOp2 C (.one "Daily") (.val (dailyD xs)) (.val (dailyD ys)) P X :=
  one_call ho hm.1 (wcall_of (α := List Int × (List Int ⊕ List D)) (xs, .inl ys) rfl trivial (by rintro r rfl; exact h))
theorem day_call {k : SqK} {l : Nat} {rs : List (Int × Int)} {r : R} {P : R → Prop} {X : XD → Prop} (e : R.as .a r = some (sqR k (rs.map p2))) (h1 : 1 ≤ l) (h2 : l ≤ 60) (h3 : rs ≠ []) (h4 : rs.length ≤ 60) (h5 : ∀ p ∈ rs, p.1 ≤ p.2) (h : P (.val (dailyD (endsOf l rs)))) : wCall fsDaily [.val (.int l), r] (fun r => match r with | .val (.obj c' fs) => c' = "Daily" ∧ P r | _ => False) X :=
  wcall_of (α := Nat × SqK × List (Int × Int)) (l, k, rs) (by simp [asAll, as_vv, e]) ⟨h1, h2, h3, h4, h5⟩ (by rintro r rfl; exact ⟨rfl, h⟩)
theorem is_call {d : D} {p : PyData} {P : R → Prop} {X : XD → Prop} (h1 : d.plain 7 = true) (h2 : d.py = some p) (h3 : okP p = true) (h : P (.val (.bl true))) : wCall fsIs [.val d, .val d] P X := ⟨d, p, rfl, h1, h2, h3, h⟩
theorem pick_call {xs : List D} {P : R → Prop} {X : XD → Prop} (h1 : xs ≠ []) (h2 : xs.length ≤ 1000000) (h : ∀ x ∈ xs, P (.val x)) : wCall fsPick [.stt, .val (.lst xs)] P X :=
  wcall_of (α := Bool × List D) (false, xs) rfl ⟨h1, h2⟩ (by rintro r ⟨x, hx, rfl⟩; exact h x hx)
end
/-! ### small lists of numbers may be compared and shown -/
theorem ints_show {xs : List Int} (h : ∀ x ∈ xs, x.natAbs < 2 ^ 1000) : PyData.showableAll (xs.map PyData.int) = true := by
  induction xs with
  | nil => rfl
  | cons x xs ih =>
    simp only [List.map_cons, PyData.showableAll, Bool.and_eq_true, PyData.showable, decide_eq_true_eq]
    refine ⟨?_, ih fun y hy => h y (by simp [hy])⟩
    have := h x (by simp)
    by_cases q : x.natAbs = 0
    · rw [q]; decide
    · exact Nat.lt_of_lt_of_le ((Nat.log2_lt q).mpr this) (by decide)
theorem ints_bulk (xs : List Int) : PyData.bulkAll (xs.map PyData.int) = xs.length := by
  induction xs with
  | nil => rfl
  | cons x xs ih => simp [PyData.bulkAll, PyData.bulk, ih]; omega
theorem okP_li {xs : List Int} (h1 : xs.length ≤ 8000) (h2 : ∀ x ∈ xs, x.natAbs < 2 ^ 1000) : okP (.list (xs.map PyData.int)) = true := by
  have := ints_lay xs
  have := ints_bulk xs
  have := ints_show h2
  simp [okP, PyData.showable, PyData.canLay0, PyData.depth, PyData.bulk, *]
theorem plain_ints (n : Nat) : ∀ xs : List Int, D.plains (xs.map D.int) n = true
  | [] => rfl
  | x :: xs => by simp [D.plains, D.plain, plain_ints n xs]
theorem is_li {xs : List Int} {P : R → Prop} {X : XD → Prop} (h1 : xs.length ≤ 8000) (h2 : ∀ x ∈ xs, x.natAbs < 2 ^ 1000) (h : P (.val (.bl true))) : wCall fsIs [.val (li xs), .val (li xs)] P X :=
  is_call (p := .list (xs.map PyData.int)) (by simp [D.plain, plain_ints]; omega) (by simp [D.py, ints_py]) (okP_li h1 h2) h
theorem is_fl {ys : List D} {xs : List Int} {P : R → Prop} {X : XD → Prop} (e : ys = xs.map D.int) (h1 : xs.length ≤ 8000) (h2 : ∀ x ∈ xs, x.natAbs < 2 ^ 1000) (h : P (.val (.bl true))) : wCall fsIs [.fresh ys, .val (li xs)] P X := by
  subst e
  exact is_li h1 h2 h
theorem end_ne : (("end" : Str) = "own_ends") = False := eq_false (by decide +kernel)
theorem begin_ne : (("begin" : Str) = "own_ends") = False := eq_false (by decide +kernel)
theorem d_end {xs : List Int} {n : Int} {P : R → Prop} {X : XD → Prop} (h1 : small xs) (h : P (.val (.int (ledOn xs n)))) : wCall fsDEnd [.val (dailyD xs), .val (.int n)] P X :=
  wcall_of (α := List Int × Int) (xs, n) rfl h1 (by rintro r rfl; exact h)
theorem d_begin {xs : List Int} {n : Int} {P : R → Prop} {X : XD → Prop} (h1 : small xs) (h : P (.val (.int (ledBack xs n)))) : wCall fsDBegin [.val (dailyD xs), .val (.int n)] P X :=
  wcall_of (α := List Int × Int) (xs, n) rfl h1 (by rintro r rfl; exact h)
theorem d_rides {xs : List Int} {P : R → Prop} {X : XD → Prop} (h1 : small xs) (h : P (.val (.tup ((needed xs).map p2)))) : wCall fsDRides [.val (dailyD xs)] P X :=
  wcall_of (α := List Int) xs rfl h1 (by rintro r rfl; exact h)
theorem says_call {C : Ct} {a b : Bool} {P : R → Prop} {X : XD → Prop} (e : a = b) (h : P (.val (.bl true))) : wCall fsSays [.val (.bl a), .val (.bl b)] P X :=
  wcall_of (α := Bool × Bool) (a, b) rfl trivial (by rintro r rfl; subst e; simpa using h)
end Dl

set_option Elab.async false
set_option linter.all false
set_option maxRecDepth 100000
set_option maxHeartbeats 4000000
/-! Dl: maps that go round by a length: plain mathematics. -/
namespace Dl
open PySem PySem.Spec PyProof.Rows L2
/-- g is the same a length on, by the length -/
def Per (l : Int) (g : Int → Int) : Prop := ∀ n k, g (n + l * k) = g n + l * k
theorem getD_rg {l : Nat} {g : Int → Int} {i : Int} (h1 : 0 ≤ i) (h2 : i < l) : ((rg l).map g).getD i.toNat 0 = g i := by
  have h3 : i.toNat < l := by omega
  simp only [List.getD, rg, List.map_map, List.getElem?_map, List.getElem?_range h3]
  simp
  congr 1
  omega
theorem div_mod (n l : Int) : n % l + l * (n / l) = n := Int.emod_add_mul_ediv n l
theorem ledOn_rg {l : Nat} {g : Int → Int} (hl : 1 ≤ l) (p : Per l g) (n : Int) : ledOn ((rg l).map g) n = g n := by
  have hl : (0 : Int) < l := by omega
  have e : (((rg l).map g).length : Int) = l := by simp [rg_length]
  unfold ledOn
  rw [e, getD_rg (Int.emod_nonneg _ (by omega)) (Int.emod_lt_of_pos _ hl), ← p, div_mod]
theorem per_ledOn {es : List Int} (h : 1 ≤ es.length) : Per es.length (ledOn es) := by
  intro n k
  have hl : (es.length : Int) ≠ 0 := by omega
  unfold ledOn
  rw [Int.add_mul_emod_self_left, Int.add_mul_ediv_left _ _ hl, Int.mul_add]
  omega
theorem ledOn_in {es : List Int} {i : Int} (h1 : 0 ≤ i) (h2 : i < es.length) : ledOn es i = es.getD i.toNat 0 := by
  unfold ledOn
  rw [Int.emod_eq_of_lt h1 h2, Int.ediv_eq_zero_of_lt h1 h2]
  omega
theorem es_eq (es : List Int) : es = (rg es.length).map (ledOn es) := by
  refine List.ext_getElem (by simp [rg_length]) fun i h1 h2 => ?_
  have h3 := getD_rg (l := es.length) (g := ledOn es) (i := (i : Int)) (by omega) (by omega)
  rw [ledOn_in (by omega) (by omega)] at h3
  simp only [List.getD, Int.toNat_natCast, List.getElem?_eq_getElem h1, List.getElem?_eq_getElem h2, Option.getD_some] at h3
  exact h3.symm
theorem es_ext {xs ys : List Int} (hl : xs.length = ys.length) (h : ∀ n : Int, 0 ≤ n → n < xs.length → ledOn xs n = ledOn ys n) : xs = ys := by
  rw [es_eq xs, es_eq ys, ← hl]
  exact List.map_congr_left fun n hn => h n (mem_rg.mp hn).1 (mem_rg.mp hn).2
/-- a map of a length that never falls and leads to no earlier number -/
structure Good (es : List Int) : Prop where
  lo : 1 ≤ es.length
  hi : es.length ≤ 60
  mono : ∀ a b : Int, a ≤ b → ledOn es a ≤ ledOn es b
  up : ∀ a : Int, a ≤ ledOn es a
theorem good_rg {l : Nat} {g : Int → Int} (h1 : 1 ≤ l) (h2 : l ≤ 60) (p : Per l g) (m : ∀ a b : Int, a ≤ b → g a ≤ g b) (u : ∀ a : Int, a ≤ g a) : Good ((rg l).map g) where
  lo := by simp [rg_length]; omega
  hi := by simp [rg_length]; omega
  mono a b h := by rw [ledOn_rg h1 p, ledOn_rg h1 p]; exact m a b h
  up a := by rw [ledOn_rg h1 p]; exact u a
/-- where rides lead -/
def ridesG (l : Nat) (rs : List (Int × Int)) (n : Int) : Int := mn (rs.map fun p => p.2 - l * ((p.1 - n) / l))
theorem endsOf_eq (l : Nat) (rs : List (Int × Int)) : endsOf l rs = (rg l).map (ridesG l rs) := rfl
theorem endsOf_length (l : Nat) (rs : List (Int × Int)) : (endsOf l rs).length = l := by simp [endsOf, rg_length]
theorem mn_map {α : Type} {xs : List α} {f : α → Int} (h : xs ≠ []) : (∃ x ∈ xs, mn (xs.map f) = f x) ∧ ∀ x ∈ xs, mn (xs.map f) ≤ f x := by
  obtain ⟨h1, h2⟩ := mn_spec (xs := xs.map f) (by simpa using h)
  obtain ⟨x, hx, e⟩ := List.mem_map.mp h1
  exact ⟨⟨x, hx, e.symm⟩, fun y hy => h2 _ (List.mem_map.mpr ⟨y, hy, rfl⟩)⟩
theorem mn_add {α : Type} {xs : List α} {f g : α → Int} {c : Int} (h : xs ≠ []) (e : ∀ x ∈ xs, g x = f x + c) : mn (xs.map g) = mn (xs.map f) + c := by
  obtain ⟨⟨x, hx, e1⟩, h1⟩ := mn_map (f := f) h
  refine mn_eq (List.mem_map.mpr ⟨x, hx, by rw [e x hx, e1]⟩) fun y hy => ?_
  obtain ⟨z, hz, rfl⟩ := List.mem_map.mp hy
  rw [e z hz]
  have := h1 z hz
  omega
theorem mn_le {α : Type} {xs : List α} {f g : α → Int} (h : xs ≠ []) (e : ∀ x ∈ xs, f x ≤ g x) : mn (xs.map f) ≤ mn (xs.map g) := by
  obtain ⟨⟨x, hx, e1⟩, _⟩ := mn_map (f := g) h
  rw [e1]
  exact Int.le_trans ((mn_map (f := f) h).2 x hx) (e x hx)
theorem ridesG_per {l : Nat} {rs : List (Int × Int)} (h1 : 1 ≤ l) (hn : rs ≠ []) : Per l (ridesG l rs) := by
  intro n k
  unfold ridesG
  refine mn_add hn fun p hp => ?_
  have e : p.1 - (n + l * k) = p.1 - n + l * (-k) := by rw [Int.mul_neg]; omega
  rw [e, Int.add_mul_ediv_left _ _ (by omega), Int.mul_add, Int.mul_neg]
  omega
theorem ridesG_mono {l : Nat} {rs : List (Int × Int)} (h1 : 1 ≤ l) (hn : rs ≠ []) (a b : Int) (h : a ≤ b) : ridesG l rs a ≤ ridesG l rs b := by
  refine mn_le hn fun p hp => ?_
  have : (p.1 - b) / l ≤ (p.1 - a) / l := Int.ediv_le_ediv (by omega) (by omega)
  have := Int.mul_le_mul_of_nonneg_left (c := (l : Int)) this (by omega)
  omega
theorem ridesG_up {l : Nat} {rs : List (Int × Int)} (h1 : 1 ≤ l) (hn : rs ≠ []) (hu : ∀ p ∈ rs, p.1 ≤ p.2) (a : Int) : a ≤ ridesG l rs a := by
  obtain ⟨⟨p, hp, e⟩, _⟩ := mn_map (f := fun p => p.2 - l * ((p.1 - a) / l)) hn
  unfold ridesG
  rw [e]
  have := hu p hp
  have := Int.mul_ediv_self_le (x := p.1 - a) (k := (l : Int)) (by omega)
  omega
theorem good_ends {l : Nat} {rs : List (Int × Int)} (h1 : 1 ≤ l) (h2 : l ≤ 60) (hn : rs ≠ []) (hu : ∀ p ∈ rs, p.1 ≤ p.2) : Good (endsOf l rs) :=
  good_rg h1 h2 (ridesG_per h1 hn) (ridesG_mono h1 hn) (ridesG_up h1 hn hu)
theorem ledOn_ends {l : Nat} {rs : List (Int × Int)} (h1 : 1 ≤ l) (hn : rs ≠ []) (n : Int) : ledOn (endsOf l rs) n = ridesG l rs n := ledOn_rg h1 (ridesG_per h1 hn) n
/-- the law's own map is that of the rides -/
theorem lawMap_eq {l : Nat} {rs : List (Int × Int)} (h1 : 1 ≤ l) : lawMap l rs = endsOf l rs := by
  have hl : (0 : Int) < l := by omega
  refine List.map_congr_left fun n hn => ?_
  obtain ⟨n1, n2⟩ := mem_rg.mp hn
  congr 1
  refine List.map_congr_left fun p hp => ?_
  have e := div_mod p.1 l
  have b1 := Int.emod_nonneg p.1 (b := (l : Int)) (by omega)
  have b2 := Int.emod_lt_of_pos p.1 hl
  have e2 : (p.1 - n) / l = p.1 / l + (p.1 % l - n) / l := by
    have : p.1 - n = (p.1 % l - n) + l * (p.1 / l) := by omega
    rw [this, Int.add_mul_ediv_left _ _ (by omega)]
    omega
  by_cases q : n ≤ p.1 % (l : Int)
  · have z : (p.1 % (l : Int) - n) / l = 0 := Int.ediv_eq_zero_of_lt (by omega) (by omega)
    rw [if_pos q, e2, z, Int.mul_add]
    omega
  · rw [if_neg q, e2]
    have e3 : (p.1 % (l : Int) - n) / l = -1 := by
      have : (p.1 % (l : Int) - n) = (p.1 % (l : Int) - n + l) + l * (-1) := by omega
      rw [this, Int.add_mul_ediv_left _ _ (by omega), Int.ediv_eq_zero_of_lt (by omega) (by omega)]
      omega
    rw [e3, Int.mul_add]
    omega
theorem lawGo_eq {es : List Int} {n : Int} : lawGo es n = ledOn es n := by
  unfold lawGo ledOn
  have := div_mod n es.length
  omega
theorem mem_en2 {es : List Int} {p : Int × Int} (h : p ∈ en es) : 0 ≤ p.1 ∧ p.1 < es.length ∧ p.2 = ledOn es p.1 := by
  obtain ⟨i, hi, rfl⟩ := mem_en.mp h
  refine ⟨by simp, by simp; omega, ?_⟩
  simp only
  rw [ledOn_in (by omega) (by omega)]
  simp [List.getD, hi]
theorem en_mem {es : List Int} {i : Int} (h1 : 0 ≤ i) (h2 : i < es.length) : (i, ledOn es i) ∈ en es := by
  refine mem_en.mpr ⟨i.toNat, by omega, ?_⟩
  have h3 : i.toNat < es.length := by omega
  rw [ledOn_in h1 h2]
  simp [List.getD, h3]
  omega
section
variable {es xs ys : List Int}
/-- the value of a map's own ride -/
theorem ride_val (g : 1 ≤ es.length) (i n : Int) : ledOn es i - es.length * ((i - n) / es.length) = ledOn es (i - es.length * ((i - n) / es.length)) := by
  have := per_ledOn g i (-((i - n) / es.length))
  rw [Int.mul_neg] at this
  rw [show i - es.length * ((i - n) / es.length) = i + -(es.length * ((i - n) / es.length)) by omega, this]
  omega
theorem Good.ride_ge (g : Good es) (i n : Int) : ledOn es n ≤ ledOn es i - es.length * ((i - n) / es.length) := by
  rw [ride_val g.lo]
  have := g.lo
  have := Int.mul_ediv_self_le (x := i - n) (k := (es.length : Int)) (by omega)
  exact g.mono _ _ (by omega)
theorem Good.okEnds (g : Good es) : okEnds es := ⟨g.lo, g.hi, fun p hp => by
  obtain ⟨_, _, e⟩ := mem_en2 hp
  rw [e]; exact g.up _⟩
theorem Good.small (g : Good es) : small es := ⟨g.lo, g.hi⟩
/-- a map's own rides make it again -/
theorem Good.again (g : Good es) : endsOf es.length (en es) = es := by
  have hl : (0 : Int) < es.length := by have := g.lo; omega
  refine es_ext (endsOf_length _ _) fun n n1 n2 => ?_
  have hn : en es ≠ [] := by
    intro z
    have := en_length es
    rw [z] at this
    simp at this
    have := g.lo
    omega
  rw [ledOn_ends g.lo hn]
  rw [endsOf_length] at n2
  refine mn_eq (List.mem_map.mpr ⟨(n, ledOn es n), en_mem n1 n2, by simp⟩) fun y hy => ?_
  obtain ⟨p, hp, rfl⟩ := List.mem_map.mp hy
  obtain ⟨_, _, e⟩ := mem_en2 hp
  rw [e]
  exact g.ride_ge _ _
theorem Good.rises (g : Good es) (n : Int) : ∃ m, n ≤ m ∧ ledOn es m = ledOn es n ∧ ledOn es m < ledOn es (m + 1) := by
  rcases Classical.em (∃ m, n ≤ m ∧ ledOn es m = ledOn es n ∧ ledOn es m < ledOn es (m + 1)) with h | h
  · exact h
  · have key : ∀ k : Nat, ledOn es (n + k) = ledOn es n := by
      intro k
      induction k with
      | zero => simp
      | succ k ih =>
        have h2 : ¬ (ledOn es (n + k) < ledOn es (n + k + 1)) := fun z => h ⟨n + k, by omega, ih, z⟩
        have h3 := g.mono (n + k) (n + k + 1) (by omega)
        have : n + ((k + 1 : Nat) : Int) = n + k + 1 := by omega
        rw [this]
        omega
    have h1 := key es.length
    have h2 := per_ledOn g.lo n 1
    rw [Int.mul_one] at h2
    have := g.lo
    omega
/-- the needed rides make it again, too -/
theorem Good.needed_ne (g : Good es) : needed es ≠ [] := by
  obtain ⟨m, _, _, h⟩ := g.rises 0
  have hl : (0 : Int) < es.length := by have := g.lo; omega
  have hm : (m % es.length, ledOn es (m % es.length)) ∈ needed es := by
    refine List.mem_filter.mpr ⟨en_mem (Int.emod_nonneg _ (by omega)) (Int.emod_lt_of_pos _ hl), ?_⟩
    have e1 := per_ledOn g.lo (m % es.length) (m / es.length)
    have e2 := per_ledOn g.lo (m % es.length + 1) (m / es.length)
    rw [div_mod] at e1
    rw [show m % es.length + 1 + es.length * (m / es.length) = (m % es.length + es.length * (m / es.length)) + 1 by omega, div_mod] at e2
    simp only [decide_eq_true_eq]
    omega
  intro z
  rw [z] at hm
  cases hm
theorem Good.needed_again (g : Good es) : endsOf es.length (needed es) = es := by
  have hl : (0 : Int) < es.length := by have := g.lo; omega
  refine es_ext (endsOf_length _ _) fun n n1 n2 => ?_
  rw [ledOn_ends g.lo g.needed_ne]
  obtain ⟨m, h1, h2, h3⟩ := g.rises n
  have e0 := div_mod m es.length
  have hm : (m % es.length, ledOn es (m % es.length)) ∈ needed es := by
    refine List.mem_filter.mpr ⟨en_mem (Int.emod_nonneg _ (by omega)) (Int.emod_lt_of_pos _ hl), ?_⟩
    have e1 := per_ledOn g.lo (m % es.length) (m / es.length)
    have e2 := per_ledOn g.lo (m % es.length + 1) (m / es.length)
    rw [e0] at e1
    rw [show m % es.length + 1 + es.length * (m / es.length) = (m % es.length + es.length * (m / es.length)) + 1 by omega, e0] at e2
    simp only [decide_eq_true_eq]
    omega
  refine mn_eq (List.mem_map.mpr ⟨_, hm, ?_⟩) fun y hy => ?_
  · refine Int.le_antisymm ?_ (g.ride_ge _ _)
    simp only
    rw [ride_val g.lo]
    have q : -(m / es.length) ≤ (m % es.length - n) / es.length := by
      refine (Int.le_ediv_iff_mul_le hl).mpr ?_
      rw [Int.neg_mul, Int.mul_comm]
      omega
    have := Int.mul_le_mul_of_nonneg_left (c := (es.length : Int)) q (by omega)
    rw [Int.mul_neg] at this
    rw [← h2]
    exact g.mono _ _ (by omega)
  · obtain ⟨p, hp, rfl⟩ := List.mem_map.mp hy
    obtain ⟨_, _, e⟩ := mem_en2 (List.mem_filter.mp hp).1
    rw [e]
    exact g.ride_ge _ _
theorem needed_len (g : 1 ≤ es.length) : (needed es).length ≤ es.length := Nat.le_trans (List.length_filter_le _ _) (by rw [en_length]; exact Nat.le_refl _)
theorem Good.needed_up (g : Good es) : ∀ p ∈ needed es, p.1 ≤ p.2 := fun p hp => by
  obtain ⟨_, _, e⟩ := mem_en2 (List.mem_filter.mp hp).1
  rw [e]; exact g.up _
/-! ### put together -/
theorem thenE_eq (h : ys.length = xs.length) : thenE xs ys = (rg xs.length).map fun n => ledOn ys (ledOn xs n) := by
  unfold thenE
  conv => lhs; rw [es_eq xs]
  rw [List.map_map]
  rfl
theorem zip_rg {l : Nat} {f g : Int → Int} : ((rg l).map f).zip ((rg l).map g) = (rg l).map fun n => (f n, g n) := by
  rw [List.zip_map']
theorem minE_eq (h : ys.length = xs.length) : minE xs ys = (rg xs.length).map fun n => min (ledOn xs n) (ledOn ys n) := by
  unfold minE
  conv => lhs; rw [es_eq xs, es_eq ys, h, zip_rg, List.map_map]
  rfl
theorem maxE_eq (h : ys.length = xs.length) : maxE xs ys = (rg xs.length).map fun n => max (ledOn xs n) (ledOn ys n) := by
  unfold maxE
  conv => lhs; rw [es_eq xs, es_eq ys, h, zip_rg, List.map_map]
  rfl
theorem per_then (gx : Good xs) (gy : Good ys) (h : ys.length = xs.length) : Per xs.length fun n => ledOn ys (ledOn xs n) := fun n k => by
  have := per_ledOn gy.lo (ledOn xs n) k
  simp only
  rw [per_ledOn gx.lo, ← h, this]
theorem per_min (gx : Good xs) (gy : Good ys) (h : ys.length = xs.length) : Per xs.length fun n => min (ledOn xs n) (ledOn ys n) := fun n k => by
  have e := per_ledOn gy.lo n k
  rw [h] at e
  simp only
  rw [per_ledOn gx.lo, e]
  omega
theorem per_max (gx : Good xs) (gy : Good ys) (h : ys.length = xs.length) : Per xs.length fun n => max (ledOn xs n) (ledOn ys n) := fun n k => by
  have e := per_ledOn gy.lo n k
  rw [h] at e
  simp only
  rw [per_ledOn gx.lo, e]
  omega
theorem good_then (gx : Good xs) (gy : Good ys) (h : ys.length = xs.length) : Good (thenE xs ys) := by
  rw [thenE_eq h]
  exact good_rg gx.lo gx.hi (per_then gx gy h) (fun a b q => gy.mono _ _ (gx.mono _ _ q)) fun a => Int.le_trans (gx.up a) (gy.up _)
theorem good_min (gx : Good xs) (gy : Good ys) (h : ys.length = xs.length) : Good (minE xs ys) := by
  rw [minE_eq h]
  refine good_rg gx.lo gx.hi (per_min gx gy h) (fun a b q => ?_) fun a => ?_
  · have := gx.mono a b q
    have := gy.mono a b q
    omega
  · have := gx.up a
    have := gy.up a
    omega
theorem good_max (gx : Good xs) (gy : Good ys) (h : ys.length = xs.length) : Good (maxE xs ys) := by
  rw [maxE_eq h]
  refine good_rg gx.lo gx.hi (per_max gx gy h) (fun a b q => ?_) fun a => ?_
  · have := gx.mono a b q
    have := gy.mono a b q
    omega
  · have := gx.up a
    have := gy.up a
    omega
theorem ledOn_then (gx : Good xs) (gy : Good ys) (h : ys.length = xs.length) (n : Int) : ledOn (thenE xs ys) n = ledOn ys (ledOn xs n) := by
  rw [thenE_eq h]; exact ledOn_rg gx.lo (per_then gx gy h) n
theorem ledOn_min (gx : Good xs) (gy : Good ys) (h : ys.length = xs.length) (n : Int) : ledOn (minE xs ys) n = min (ledOn xs n) (ledOn ys n) := by
  rw [minE_eq h]; exact ledOn_rg gx.lo (per_min gx gy h) n
theorem ledOn_max (gx : Good xs) (gy : Good ys) (h : ys.length = xs.length) (n : Int) : ledOn (maxE xs ys) n = max (ledOn xs n) (ledOn ys n) := by
  rw [maxE_eq h]; exact ledOn_rg gx.lo (per_max gx gy h) n
theorem then_length : (thenE xs ys).length = xs.length := by simp [thenE]
theorem min_length (h : ys.length = xs.length) : (minE xs ys).length = xs.length := by simp [minE, h]
theorem max_length (h : ys.length = xs.length) : (maxE xs ys).length = xs.length := by simp [maxE, h]
theorem leE_iff (h : ys.length = xs.length) : leE xs ys = true ↔ ∀ n : Int, 0 ≤ n → n < xs.length → ledOn xs n ≤ ledOn ys n := by
  unfold leE
  conv => lhs; rw [es_eq xs, es_eq ys, h, zip_rg, List.map_map]
  rw [List.all_eq_true]
  constructor
  · intro q n h1 h2
    have := q _ (List.mem_map.mpr ⟨n, mem_rg.mpr ⟨h1, h2⟩, rfl⟩)
    simpa using this
  · intro q b hb
    obtain ⟨n, hn, rfl⟩ := List.mem_map.mp hb
    have := q n (mem_rg.mp hn).1 (mem_rg.mp hn).2
    simpa using this
end
end Dl

set_option Elab.async false
set_option linter.all false
set_option maxRecDepth 100000
set_option maxHeartbeats 4000000
/-! Dl: more of the laws' own small defs: shuffled, back, needed. -/
namespace Dl
open PySem PySem.Spec PyProof.Rows L2
def n_law_shuffled : List Str := ["state", "some", "left", "found"]
def ir_law_shuffled : St :=
(.seq (.par 2 3 (.ty "list" (.cons (.var 1) .nil)) (.lst .nil))
  (.seq (.whl 64 (.cmp .ne (.var 2) (.lst .nil)) (.seq (.popApp 3 2 (.call "_law_draw" (.cons (.var 0) (.cons (.bi "len" (.cons (.var 2) .nil)) .nil))))
  .skip))
  (.seq (.frz 2)
  (.seq (.retV 3)
  .skip))))
def n_law_back : List Str := ["ends", "number", "lap", "far", "found", "at", "end"]
def ir_law_back : St :=
(.seq (.par 3 4 (.bi "max" (.cons (.comp (.bin .sub (.var 6) (.var 5)) (.t2 (.nm 5) (.nm 6)) (.itEnum (.var 0)) .nil [("at", 5), ("end", 6)] 64) .nil)) (.var 1))
  (.seq (.for_ (.nm 2) (.itRng (.cons (.bin .add (.var 3) (eI 1)) .nil)) 64 (.seq (.ifs (.cmp .gt (.call "_law_go" (.cons (.var 0) (.cons (.var 4) .nil))) (.var 1)) (.seq (.asg (.nm 4) (.bin .sub (.var 4) (eI 1)))
  (.seq (.frz 4)
  .skip)) .skip)
  .skip))
  (.seq (.retV 4)
  .skip)))
def n_law_needed : List Str := ["ends", "at", "end"]
def ir_law_needed : St :=
(.seq (.ret (.ty "tuple" (.cons (.comp (.tup (.cons (.var 1) (.cons (.var 2) .nil))) (.t2 (.nm 1) (.nm 2)) (.itEnum (.var 0)) (.cons (.cmp .lt (.var 2) (.call "_law_go" (.cons (.var 0) (.cons (.bin .add (.var 1) (eI 1)) .nil)))) .nil) [("at", 1), ("end", 2)] 64) .nil)))
  .skip)

/-- may be compared -/
def Fn1 (d : D) : Prop := ∃ p, d.py = some p ∧ p.canLay0 = true ∧ p.depth ≤ 7
theorem pys_of : ∀ {xs : List D}, (∀ d ∈ xs, Fn1 d) → ∃ ps, D.pys xs = some ps ∧ PyData.canLayAll0 ps = true ∧ PyData.depthAll ps ≤ 7 ∧ ps.length = xs.length
  | [], _ => ⟨[], rfl, rfl, by decide, rfl⟩
  | d :: xs, h => by
    obtain ⟨ps, e1, e2, e3, e4⟩ := pys_of (xs := xs) fun d hd => h d (by simp [hd])
    obtain ⟨p, q1, q2, q3⟩ := h d (by simp)
    refine ⟨p :: ps, by simp [D.pys, q1, e1], by simp [PyData.canLayAll0, q2, e2], ?_, by simp [e4]⟩
    simp only [PyData.depthAll]
    omega
theorem wEq_nil {neg : Bool} {xs : List D} {P : R → Prop} (h : ∀ d ∈ xs, Fn1 d) (hP : P (.val (.bl (neg ^^ xs.isEmpty)))) : wEq neg (.lst xs) (.lst []) P := by
  obtain ⟨ps, e1, e2, e3, e4⟩ := pys_of h
  have sh : SeqAt.shaped (.list ps) = true := by
    simp [SeqAt.shaped, PyData.canLay0, e2, PyData.depth]
    omega
  have ee : PyData.eqv (.list ps) (.list []) = xs.isEmpty := by
    cases ps with
    | nil =>
      cases xs with
      | nil => rfl
      | cons x xs => simp at e4
    | cons p ps =>
      cases xs with
      | nil => simp at e4
      | cons x xs => rfl
  unfold wEq
  exact ⟨.list ps, .list [], by simp [D.py, e1], by simp [D.py, D.pys], sh, rfl, by rw [ee]; exact hP⟩
theorem erase_perm : ∀ {xs : List D} {i : Nat} (h : i < xs.length), (xs[i] :: xs.eraseIdx i).Perm xs
  | x :: xs, 0, h => by simp
  | x :: xs, i + 1, h => by
    have ih := erase_perm (xs := xs) (i := i) (by simpa using h)
    simp only [List.getElem_cons_succ, List.eraseIdx_cons_succ]
    exact (List.Perm.swap _ _ _).trans (ih.cons x)
def fsShuffled : FS := fsD [.s, .v] (fun a : Bool × List D => [.stt, .val (sq a.1 a.2)]) (fun a => a.2.length ≤ 60 ∧ ∀ d ∈ a.2, Fn1 d) (fun a r => ∃ ys : List D, ys.Perm a.2 ∧ r = .fresh ys)
def fsNeeded : FS := fsD [.v] (fun a : Bool × List Int => [.val (sq a.1 (a.2.map D.int))]) (fun a => small a.2) (fun a r => r = .val (.tup ((needed a.2).map p2)))
def fsBack : FS := fsD [.v, .v] (fun a : Bool × List Int × Int => [.val (sq a.1 (a.2.1.map D.int)), .val (.int a.2.2)]) (fun a => Good a.2.1 ∧ ∀ n : Int, 0 ≤ n → n < a.2.1.length → ledOn a.2.1 n ≤ 2 ^ 40) (fun a r => r = .val (.int (ledBack a.2.1 a.2.2)))
section
variable {es : List Int}
theorem Good.back (g : Good es) (n : Int) : ledOn es (ledBack es n) ≤ n ∧ ∀ m, ledOn es m ≤ n → m ≤ ledBack es n := by
  have hl : (0 : Int) < es.length := by have := g.lo; omega
  have hn : (en es).map (fun p => p.1 + es.length * ((n - p.2) / es.length)) ≠ [] := by
    intro z
    have := congrArg List.length z
    simp [en_length] at this
    have g1 := g.lo
    rw [this] at g1
    simp at g1
  obtain ⟨h1, h2⟩ := mx_spec hn
  constructor
  · obtain ⟨p, hp, e⟩ := List.mem_map.mp h1
    obtain ⟨_, _, e2⟩ := mem_en2 hp
    have e3 : ledBack es n = p.1 + es.length * ((n - p.2) / es.length) := e.symm
    rw [e3, per_ledOn g.lo, e2]
    have := Int.mul_ediv_self_le (x := n - ledOn es p.1) (k := (es.length : Int)) (by omega)
    omega
  · intro m hm
    have e0 := div_mod m es.length
    have hp := en_mem (es := es) (Int.emod_nonneg m (by omega)) (Int.emod_lt_of_pos m hl)
    refine Int.le_trans ?_ (h2 _ (List.mem_map.mpr ⟨_, hp, rfl⟩))
    have e1 := per_ledOn g.lo (m % es.length) (m / es.length)
    rw [e0] at e1
    have q : m / es.length ≤ (n - ledOn es (m % es.length)) / es.length := by
      refine (Int.le_ediv_iff_mul_le hl).mpr ?_
      rw [Int.mul_comm]
      omega
    have := Int.mul_le_mul_of_nonneg_left (c := (es.length : Int)) q (by omega)
    simp only
    omega
theorem Good.far (g : Good es) (x : Int) : ledOn es x - x ≤ mx ((en es).map fun p => p.2 - p.1) := by
  have hl : (0 : Int) < es.length := by have := g.lo; omega
  have hp := en_mem (es := es) (Int.emod_nonneg x (by omega)) (Int.emod_lt_of_pos x hl)
  have hn : (en es).map (fun p => p.2 - p.1) ≠ [] := by
    intro z
    rw [List.map_eq_nil_iff] at z
    rw [z] at hp
    cases hp
  have := (mx_spec hn).2 _ (List.mem_map.mpr ⟨_, hp, rfl⟩)
  have e0 := div_mod x es.length
  have e1 := per_ledOn g.lo (x % es.length) (x / es.length)
  rw [e0] at e1
  simp only at this
  omega
end
section
variable {C : Ct}
theorem needed_keeps (h1 : KnF C "_law_go" fsGo 0) : Keeps C ir_law_needed n_law_needed ["ends"] fsNeeded := by
  refine keeps_of fun a P X hd hP => ⟨rfl, ?_⟩
  obtain ⟨b, es⟩ := a
  have hQ : P (.val (.tup ((needed es).map p2))) := hP _ rfl
  obtain ⟨k1, k2⟩ := hd
  simp only at k1 k2
  have z4 : (2 : Nat) ≤ sizeLine := by rw [sizeLine_eq]; decide
  cases b
  all_goals
    simp [ir_law_needed, n_law_needed, wS, wE, wEs, wT, wC, wO, wIt, wipeD, frzD, Cst.d, asAll, startD, wEq_int, wEq_str, wEq_bl, wBi_len, wBi_abs, wBi_min2, wBi_max2, see_val, see_fresh, see_brw, dat_val, dat_fresh, out_val, out_fresh, out_stt, tru_non, tru_bl, tru_int, tru_lst, tru_tup, tru_fresh, tru_brw, as_vv, as_vf, as_s, as_av, as_af, as_ab, as_bf, as_bb, as_bl, lv_lst, lv_fresh, lv_brw, int_int, len_lst, len_tup, len_frl, len_fresh, len_brw, rd_val, rd_own, rd_bor, rd_stt, it_lst, it_tup, it_frl, it_fresh, it_brw, bin_add, bin_sub, bin_mul, bin_fdiv, bin_mod, bin_pow, bin_str, cat_vv, cat_vf, cat_vb, rep_v, cat_fv, cat_ff, cat_fb, rep_f, cat_bv, cat_bf, cat_bb, rep_b, cmp_eq_vv, cmp_eq_fv, cmp_eq_vf, cmp_eq_ff, cmp_eq_fb, cmp_eq_bv, cmp_eq_vb, cmp_eq_bf, cmp_eq_bb, cmp_ne_vv, cmp_ne_fv, cmp_ne_vf, cmp_ne_ff, cmp_ne_fb, cmp_ne_bv, cmp_ne_vb, cmp_ne_bf, cmp_ne_bb, cmp_lt, cmp_le, cmp_gt, cmp_ge, cmp_is_non, cmp_isn_non, cmp_is_bl, cmp_isn_bl, isNon_non, isNon_int, isNon_str, isNon_lst, isNon_tup, isNon_frl, isNon_obj, isNon_bl, ix_tup, ix_v, ix_f, ix_b, tg_nm, tg_t2, tg_t3, asg_nm, asg_t2, asg_t3, nm_val, nm_fresh, nm_stt, sl_val, sl_brw, sl_stt, ty_int, ty_tt, ty_tv, ty_lv, ty_tf, ty_lf, ty_tb, ty_lb, ty_lt, slc_tup, slc_v, slc_f, slc_b, slc_str, ti, li, p2, it_sq, len_sq, rng_1, rng_2, it_sqR, len_sqR, rd_sqR, as_sqR, sq, enumD_ints, en_length, costE, h1.1, h1.2]
    refine ⟨size_big (by omega), ?_⟩
    refine walk_filter (g := p2) (f := p2) (c := fun p => decide (p.2 < ledOn es (p.1 + 1))) (fun p hp acc k hk => ?_) ?_
    · simp [wS, wE, wEs, wT, wC, wO, wIt, wipeD, frzD, Cst.d, asAll, startD, wEq_int, wEq_str, wEq_bl, wBi_len, wBi_abs, wBi_min2, wBi_max2, see_val, see_fresh, see_brw, dat_val, dat_fresh, out_val, out_fresh, out_stt, tru_non, tru_bl, tru_int, tru_lst, tru_tup, tru_fresh, tru_brw, as_vv, as_vf, as_s, as_av, as_af, as_ab, as_bf, as_bb, as_bl, lv_lst, lv_fresh, lv_brw, int_int, len_lst, len_tup, len_frl, len_fresh, len_brw, rd_val, rd_own, rd_bor, rd_stt, it_lst, it_tup, it_frl, it_fresh, it_brw, bin_add, bin_sub, bin_mul, bin_fdiv, bin_mod, bin_pow, bin_str, cat_vv, cat_vf, cat_vb, rep_v, cat_fv, cat_ff, cat_fb, rep_f, cat_bv, cat_bf, cat_bb, rep_b, cmp_eq_vv, cmp_eq_fv, cmp_eq_vf, cmp_eq_ff, cmp_eq_fb, cmp_eq_bv, cmp_eq_vb, cmp_eq_bf, cmp_eq_bb, cmp_ne_vv, cmp_ne_fv, cmp_ne_vf, cmp_ne_ff, cmp_ne_fb, cmp_ne_bv, cmp_ne_vb, cmp_ne_bf, cmp_ne_bb, cmp_lt, cmp_le, cmp_gt, cmp_ge, cmp_is_non, cmp_isn_non, cmp_is_bl, cmp_isn_bl, isNon_non, isNon_int, isNon_str, isNon_lst, isNon_tup, isNon_frl, isNon_obj, isNon_bl, ix_tup, ix_v, ix_f, ix_b, tg_nm, tg_t2, tg_t3, asg_nm, asg_t2, asg_t3, nm_val, nm_fresh, nm_stt, sl_val, sl_brw, sl_stt, ty_int, ty_tt, ty_tv, ty_lv, ty_tf, ty_lf, ty_tb, ty_lb, ty_lt, slc_tup, slc_v, slc_f, slc_b, slc_str, ti, li, p2, it_sq, len_sq, rng_1, rng_2, it_sqR, len_sqR, rd_sqR, as_sqR, h1.1]
      first
        | refine wcall_of (α := Bool × List Int × Int) (true, es, p.1 + 1) rfl ⟨k1, k2⟩ ?_
        | refine wcall_of (α := Bool × List Int × Int) (false, es, p.1 + 1) rfl ⟨k1, k2⟩ ?_
      rintro r rfl
      simp only [lawGo_eq]
      simp [wS, wE, wEs, wT, wC, wO, wIt, wipeD, frzD, Cst.d, asAll, startD, wEq_int, wEq_str, wEq_bl, wBi_len, wBi_abs, wBi_min2, wBi_max2, see_val, see_fresh, see_brw, dat_val, dat_fresh, out_val, out_fresh, out_stt, tru_non, tru_bl, tru_int, tru_lst, tru_tup, tru_fresh, tru_brw, as_vv, as_vf, as_s, as_av, as_af, as_ab, as_bf, as_bb, as_bl, lv_lst, lv_fresh, lv_brw, int_int, len_lst, len_tup, len_frl, len_fresh, len_brw, rd_val, rd_own, rd_bor, rd_stt, it_lst, it_tup, it_frl, it_fresh, it_brw, bin_add, bin_sub, bin_mul, bin_fdiv, bin_mod, bin_pow, bin_str, cat_vv, cat_vf, cat_vb, rep_v, cat_fv, cat_ff, cat_fb, rep_f, cat_bv, cat_bf, cat_bb, rep_b, cmp_eq_vv, cmp_eq_fv, cmp_eq_vf, cmp_eq_ff, cmp_eq_fb, cmp_eq_bv, cmp_eq_vb, cmp_eq_bf, cmp_eq_bb, cmp_ne_vv, cmp_ne_fv, cmp_ne_vf, cmp_ne_ff, cmp_ne_fb, cmp_ne_bv, cmp_ne_vb, cmp_ne_bf, cmp_ne_bb, cmp_lt, cmp_le, cmp_gt, cmp_ge, cmp_is_non, cmp_isn_non, cmp_is_bl, cmp_isn_bl, isNon_non, isNon_int, isNon_str, isNon_lst, isNon_tup, isNon_frl, isNon_obj, isNon_bl, ix_tup, ix_v, ix_f, ix_b, tg_nm, tg_t2, tg_t3, asg_nm, asg_t2, asg_t3, nm_val, nm_fresh, nm_stt, sl_val, sl_brw, sl_stt, ty_int, ty_tt, ty_tv, ty_lv, ty_tf, ty_lf, ty_tb, ty_lb, ty_lt, slc_tup, slc_v, slc_f, slc_b, slc_str, ti, li, p2, it_sq, len_sq, rng_1, rng_2, it_sqR, len_sqR, rd_sqR, as_sqR]
      by_cases q : p.2 < ledOn es (p.1 + 1)
      · simpa [q, wS, wE, wEs, wT, wC, wO, wIt, wipeD, frzD, Cst.d, asAll, startD, wEq_int, wEq_str, wEq_bl, wBi_len, wBi_abs, wBi_min2, wBi_max2, see_val, see_fresh, see_brw, dat_val, dat_fresh, out_val, out_fresh, out_stt, tru_non, tru_bl, tru_int, tru_lst, tru_tup, tru_fresh, tru_brw, as_vv, as_vf, as_s, as_av, as_af, as_ab, as_bf, as_bb, as_bl, lv_lst, lv_fresh, lv_brw, int_int, len_lst, len_tup, len_frl, len_fresh, len_brw, rd_val, rd_own, rd_bor, rd_stt, it_lst, it_tup, it_frl, it_fresh, it_brw, bin_add, bin_sub, bin_mul, bin_fdiv, bin_mod, bin_pow, bin_str, cat_vv, cat_vf, cat_vb, rep_v, cat_fv, cat_ff, cat_fb, rep_f, cat_bv, cat_bf, cat_bb, rep_b, cmp_eq_vv, cmp_eq_fv, cmp_eq_vf, cmp_eq_ff, cmp_eq_fb, cmp_eq_bv, cmp_eq_vb, cmp_eq_bf, cmp_eq_bb, cmp_ne_vv, cmp_ne_fv, cmp_ne_vf, cmp_ne_ff, cmp_ne_fb, cmp_ne_bv, cmp_ne_vb, cmp_ne_bf, cmp_ne_bb, cmp_lt, cmp_le, cmp_gt, cmp_ge, cmp_is_non, cmp_isn_non, cmp_is_bl, cmp_isn_bl, isNon_non, isNon_int, isNon_str, isNon_lst, isNon_tup, isNon_frl, isNon_obj, isNon_bl, ix_tup, ix_v, ix_f, ix_b, tg_nm, tg_t2, tg_t3, asg_nm, asg_t2, asg_t3, nm_val, nm_fresh, nm_stt, sl_val, sl_brw, sl_stt, ty_int, ty_tt, ty_tv, ty_lv, ty_tf, ty_lf, ty_tb, ty_lb, ty_lt, slc_tup, slc_v, slc_f, slc_b, slc_str, ti, li, p2, it_sq, len_sq, rng_1, rng_2, it_sqR, len_sqR, rd_sqR, as_sqR, z4] using hk
      · simpa [q] using hk
    · simp [wS, wE, wEs, wT, wC, wO, wIt, wipeD, frzD, Cst.d, asAll, startD, wEq_int, wEq_str, wEq_bl, wBi_len, wBi_abs, wBi_min2, wBi_max2, see_val, see_fresh, see_brw, dat_val, dat_fresh, out_val, out_fresh, out_stt, tru_non, tru_bl, tru_int, tru_lst, tru_tup, tru_fresh, tru_brw, as_vv, as_vf, as_s, as_av, as_af, as_ab, as_bf, as_bb, as_bl, lv_lst, lv_fresh, lv_brw, int_int, len_lst, len_tup, len_frl, len_fresh, len_brw, rd_val, rd_own, rd_bor, rd_stt, it_lst, it_tup, it_frl, it_fresh, it_brw, bin_add, bin_sub, bin_mul, bin_fdiv, bin_mod, bin_pow, bin_str, cat_vv, cat_vf, cat_vb, rep_v, cat_fv, cat_ff, cat_fb, rep_f, cat_bv, cat_bf, cat_bb, rep_b, cmp_eq_vv, cmp_eq_fv, cmp_eq_vf, cmp_eq_ff, cmp_eq_fb, cmp_eq_bv, cmp_eq_vb, cmp_eq_bf, cmp_eq_bb, cmp_ne_vv, cmp_ne_fv, cmp_ne_vf, cmp_ne_ff, cmp_ne_fb, cmp_ne_bv, cmp_ne_vb, cmp_ne_bf, cmp_ne_bb, cmp_lt, cmp_le, cmp_gt, cmp_ge, cmp_is_non, cmp_isn_non, cmp_is_bl, cmp_isn_bl, isNon_non, isNon_int, isNon_str, isNon_lst, isNon_tup, isNon_frl, isNon_obj, isNon_bl, ix_tup, ix_v, ix_f, ix_b, tg_nm, tg_t2, tg_t3, asg_nm, asg_t2, asg_t3, nm_val, nm_fresh, nm_stt, sl_val, sl_brw, sl_stt, ty_int, ty_tt, ty_tv, ty_lv, ty_tf, ty_lf, ty_tb, ty_lb, ty_lt, slc_tup, slc_v, slc_f, slc_b, slc_str, ti, li, p2, it_sq, len_sq, rng_1, rng_2, it_sqR, len_sqR, rd_sqR, as_sqR]
      exact hQ
theorem shuffled_keeps (h1 : KnF C "_law_draw" fsDraw 1) : Keeps C ir_law_shuffled n_law_shuffled ["state", "some"] fsShuffled := by
  refine keeps_of fun a P X hd hP => ⟨rfl, ?_⟩
  obtain ⟨b, xs⟩ := a
  obtain ⟨k1, k2⟩ := hd
  simp only at k1 k2
  have start : ∀ (W : WD), (∀ ys : List D, ys.Perm xs → W.rt (.fresh ys)) → wS C (.seq (.whl 64 (.cmp .ne (.var 2) (.lst .nil)) (.seq (.popApp 3 2 (.call "_law_draw" (.cons (.var 0) (.cons (.bi "len" (.cons (.var 2) .nil)) .nil)))) .skip)) (.seq (.frz 2) (.seq (.retV 3) .skip))) [.stt, .val (sq b xs), .own xs, .own []] W X := by
    intro W hW
    refine ⟨fun m δ => ∃ ls fs : List D, ls.length = m ∧ (fs ++ ls).Perm xs ∧ δ = [.stt, .val (sq b xs), .own ls, .own fs], ⟨xs.length, fun _ => by omega, xs, [], rfl, by simp, rfl⟩, ?_⟩
    rintro m δ ⟨ls, fs, e1, e2, rfl⟩
    have f1 : ∀ d ∈ ls, Fn1 d := fun d hd => k2 d (e2.subset (by simp [hd]))
    have hlen : (fs ++ ls).length = xs.length := e2.length_eq
    simp only [List.length_append] at hlen
    simp [wS, wE, wEs, wT, wC, wO, wIt, wipeD, frzD, Cst.d, asAll, startD, wEq_int, wEq_str, wEq_bl, wBi_len, wBi_abs, wBi_min2, wBi_max2, see_val, see_fresh, see_brw, dat_val, dat_fresh, out_val, out_fresh, out_stt, tru_non, tru_bl, tru_int, tru_lst, tru_tup, tru_fresh, tru_brw, as_vv, as_vf, as_s, as_av, as_af, as_ab, as_bf, as_bb, as_bl, lv_lst, lv_fresh, lv_brw, int_int, len_lst, len_tup, len_frl, len_fresh, len_brw, rd_val, rd_own, rd_bor, rd_stt, it_lst, it_tup, it_frl, it_fresh, it_brw, bin_add, bin_sub, bin_mul, bin_fdiv, bin_mod, bin_pow, bin_str, cat_vv, cat_vf, cat_vb, rep_v, cat_fv, cat_ff, cat_fb, rep_f, cat_bv, cat_bf, cat_bb, rep_b, cmp_eq_vv, cmp_eq_fv, cmp_eq_vf, cmp_eq_ff, cmp_eq_fb, cmp_eq_bv, cmp_eq_vb, cmp_eq_bf, cmp_eq_bb, cmp_ne_vv, cmp_ne_fv, cmp_ne_vf, cmp_ne_ff, cmp_ne_fb, cmp_ne_bv, cmp_ne_vb, cmp_ne_bf, cmp_ne_bb, cmp_lt, cmp_le, cmp_gt, cmp_ge, cmp_is_non, cmp_isn_non, cmp_is_bl, cmp_isn_bl, isNon_non, isNon_int, isNon_str, isNon_lst, isNon_tup, isNon_frl, isNon_obj, isNon_bl, ix_tup, ix_v, ix_f, ix_b, tg_nm, tg_t2, tg_t3, asg_nm, asg_t2, asg_t3, nm_val, nm_fresh, nm_stt, sl_val, sl_brw, sl_stt, ty_int, ty_tt, ty_tv, ty_lv, ty_tf, ty_lf, ty_tb, ty_lb, ty_lt, slc_tup, slc_v, slc_f, slc_b, slc_str, ti, li, p2, it_sq, len_sq, rng_1, rng_2, it_sqR, len_sqR, rd_sqR, as_sqR]
    refine wEq_nil f1 ?_
    cases ls with
    | nil =>
      simp [wS, wE, wEs, wT, wC, wO, wIt, wipeD, frzD, Cst.d, asAll, startD, wEq_int, wEq_str, wEq_bl, wBi_len, wBi_abs, wBi_min2, wBi_max2, see_val, see_fresh, see_brw, dat_val, dat_fresh, out_val, out_fresh, out_stt, tru_non, tru_bl, tru_int, tru_lst, tru_tup, tru_fresh, tru_brw, as_vv, as_vf, as_s, as_av, as_af, as_ab, as_bf, as_bb, as_bl, lv_lst, lv_fresh, lv_brw, int_int, len_lst, len_tup, len_frl, len_fresh, len_brw, rd_val, rd_own, rd_bor, rd_stt, it_lst, it_tup, it_frl, it_fresh, it_brw, bin_add, bin_sub, bin_mul, bin_fdiv, bin_mod, bin_pow, bin_str, cat_vv, cat_vf, cat_vb, rep_v, cat_fv, cat_ff, cat_fb, rep_f, cat_bv, cat_bf, cat_bb, rep_b, cmp_eq_vv, cmp_eq_fv, cmp_eq_vf, cmp_eq_ff, cmp_eq_fb, cmp_eq_bv, cmp_eq_vb, cmp_eq_bf, cmp_eq_bb, cmp_ne_vv, cmp_ne_fv, cmp_ne_vf, cmp_ne_ff, cmp_ne_fb, cmp_ne_bv, cmp_ne_vb, cmp_ne_bf, cmp_ne_bb, cmp_lt, cmp_le, cmp_gt, cmp_ge, cmp_is_non, cmp_isn_non, cmp_is_bl, cmp_isn_bl, isNon_non, isNon_int, isNon_str, isNon_lst, isNon_tup, isNon_frl, isNon_obj, isNon_bl, ix_tup, ix_v, ix_f, ix_b, tg_nm, tg_t2, tg_t3, asg_nm, asg_t2, asg_t3, nm_val, nm_fresh, nm_stt, sl_val, sl_brw, sl_stt, ty_int, ty_tt, ty_tv, ty_lv, ty_tf, ty_lf, ty_tb, ty_lb, ty_lt, slc_tup, slc_v, slc_f, slc_b, slc_str, ti, li, p2, it_sq, len_sq, rng_1, rng_2, it_sqR, len_sqR, rd_sqR, as_sqR]
      exact hW _ (by simpa using e2)
    | cons y ls =>
      simp [wS, wE, wEs, wT, wC, wO, wIt, wipeD, frzD, Cst.d, asAll, startD, wEq_int, wEq_str, wEq_bl, wBi_len, wBi_abs, wBi_min2, wBi_max2, see_val, see_fresh, see_brw, dat_val, dat_fresh, out_val, out_fresh, out_stt, tru_non, tru_bl, tru_int, tru_lst, tru_tup, tru_fresh, tru_brw, as_vv, as_vf, as_s, as_av, as_af, as_ab, as_bf, as_bb, as_bl, lv_lst, lv_fresh, lv_brw, int_int, len_lst, len_tup, len_frl, len_fresh, len_brw, rd_val, rd_own, rd_bor, rd_stt, it_lst, it_tup, it_frl, it_fresh, it_brw, bin_add, bin_sub, bin_mul, bin_fdiv, bin_mod, bin_pow, bin_str, cat_vv, cat_vf, cat_vb, rep_v, cat_fv, cat_ff, cat_fb, rep_f, cat_bv, cat_bf, cat_bb, rep_b, cmp_eq_vv, cmp_eq_fv, cmp_eq_vf, cmp_eq_ff, cmp_eq_fb, cmp_eq_bv, cmp_eq_vb, cmp_eq_bf, cmp_eq_bb, cmp_ne_vv, cmp_ne_fv, cmp_ne_vf, cmp_ne_ff, cmp_ne_fb, cmp_ne_bv, cmp_ne_vb, cmp_ne_bf, cmp_ne_bb, cmp_lt, cmp_le, cmp_gt, cmp_ge, cmp_is_non, cmp_isn_non, cmp_is_bl, cmp_isn_bl, isNon_non, isNon_int, isNon_str, isNon_lst, isNon_tup, isNon_frl, isNon_obj, isNon_bl, ix_tup, ix_v, ix_f, ix_b, tg_nm, tg_t2, tg_t3, asg_nm, asg_t2, asg_t3, nm_val, nm_fresh, nm_stt, sl_val, sl_brw, sl_stt, ty_int, ty_tt, ty_tv, ty_lv, ty_tf, ty_lf, ty_tb, ty_lb, ty_lt, slc_tup, slc_v, slc_f, slc_b, slc_str, ti, li, p2, it_sq, len_sq, rng_1, rng_2, it_sqR, len_sqR, rd_sqR, as_sqR, h1.1]
      simp only [List.length_cons] at hlen e1
      refine draw_call (by first | omega | (simp; omega)) (by first | omega | (simp; omega)) fun n n1 n2 => ?_
      try simp [wS, wE, wEs, wT, wC, wO, wIt, wipeD, frzD, Cst.d, asAll, startD, wEq_int, wEq_str, wEq_bl, wBi_len, wBi_abs, wBi_min2, wBi_max2, see_val, see_fresh, see_brw, dat_val, dat_fresh, out_val, out_fresh, out_stt, tru_non, tru_bl, tru_int, tru_lst, tru_tup, tru_fresh, tru_brw, as_vv, as_vf, as_s, as_av, as_af, as_ab, as_bf, as_bb, as_bl, lv_lst, lv_fresh, lv_brw, int_int, len_lst, len_tup, len_frl, len_fresh, len_brw, rd_val, rd_own, rd_bor, rd_stt, it_lst, it_tup, it_frl, it_fresh, it_brw, bin_add, bin_sub, bin_mul, bin_fdiv, bin_mod, bin_pow, bin_str, cat_vv, cat_vf, cat_vb, rep_v, cat_fv, cat_ff, cat_fb, rep_f, cat_bv, cat_bf, cat_bb, rep_b, cmp_eq_vv, cmp_eq_fv, cmp_eq_vf, cmp_eq_ff, cmp_eq_fb, cmp_eq_bv, cmp_eq_vb, cmp_eq_bf, cmp_eq_bb, cmp_ne_vv, cmp_ne_fv, cmp_ne_vf, cmp_ne_ff, cmp_ne_fb, cmp_ne_bv, cmp_ne_vb, cmp_ne_bf, cmp_ne_bb, cmp_lt, cmp_le, cmp_gt, cmp_ge, cmp_is_non, cmp_isn_non, cmp_is_bl, cmp_isn_bl, isNon_non, isNon_int, isNon_str, isNon_lst, isNon_tup, isNon_frl, isNon_obj, isNon_bl, ix_tup, ix_v, ix_f, ix_b, tg_nm, tg_t2, tg_t3, asg_nm, asg_t2, asg_t3, nm_val, nm_fresh, nm_stt, sl_val, sl_brw, sl_stt, ty_int, ty_tt, ty_tv, ty_lv, ty_tf, ty_lf, ty_tb, ty_lb, ty_lt, slc_tup, slc_v, slc_f, slc_b, slc_str, ti, li, p2, it_sq, len_sq, rng_1, rng_2, it_sqR, len_sqR, rd_sqR, as_sqR]
      try simp at n2
      have hlt : n.toNat < (y :: ls).length := by simp; omega
      refine ⟨n1, by omega, Nat.lt_of_le_of_lt (m := 60) (by omega) (size_big (by omega)), by omega, fun d hd => ?_⟩
      refine ⟨ls.length, by omega, by rw [List.length_eraseIdx]; simp [hlt] <;> omega, ?_⟩
      have ed : d = (y :: ls)[n.toNat] := by
        rw [List.getElem?_eq_getElem hlt] at hd
        exact (Option.some.inj hd).symm
      subst ed
      refine List.Perm.trans ?_ e2
      exact List.Perm.append_left _ (erase_perm hlt)
  have fin := start { nx := fun _ => P (.val .non), rt := P } (fun ys h => hP _ ⟨ys, h, rfl⟩)
  cases b
  all_goals
    show wS C (.seq (.par 2 3 (.ty "list" (.cons (.var 1) .nil)) (.lst .nil)) _) _ _ _
    simp only [wS]
    simp [n_law_shuffled, wE, wEs, wS, wE, wEs, wT, wC, wO, wIt, wipeD, frzD, Cst.d, asAll, startD, wEq_int, wEq_str, wEq_bl, wBi_len, wBi_abs, wBi_min2, wBi_max2, see_val, see_fresh, see_brw, dat_val, dat_fresh, out_val, out_fresh, out_stt, tru_non, tru_bl, tru_int, tru_lst, tru_tup, tru_fresh, tru_brw, as_vv, as_vf, as_s, as_av, as_af, as_ab, as_bf, as_bb, as_bl, lv_lst, lv_fresh, lv_brw, int_int, len_lst, len_tup, len_frl, len_fresh, len_brw, rd_val, rd_own, rd_bor, rd_stt, it_lst, it_tup, it_frl, it_fresh, it_brw, bin_add, bin_sub, bin_mul, bin_fdiv, bin_mod, bin_pow, bin_str, cat_vv, cat_vf, cat_vb, rep_v, cat_fv, cat_ff, cat_fb, rep_f, cat_bv, cat_bf, cat_bb, rep_b, cmp_eq_vv, cmp_eq_fv, cmp_eq_vf, cmp_eq_ff, cmp_eq_fb, cmp_eq_bv, cmp_eq_vb, cmp_eq_bf, cmp_eq_bb, cmp_ne_vv, cmp_ne_fv, cmp_ne_vf, cmp_ne_ff, cmp_ne_fb, cmp_ne_bv, cmp_ne_vb, cmp_ne_bf, cmp_ne_bb, cmp_lt, cmp_le, cmp_gt, cmp_ge, cmp_is_non, cmp_isn_non, cmp_is_bl, cmp_isn_bl, isNon_non, isNon_int, isNon_str, isNon_lst, isNon_tup, isNon_frl, isNon_obj, isNon_bl, ix_tup, ix_v, ix_f, ix_b, tg_nm, tg_t2, tg_t3, asg_nm, asg_t2, asg_t3, nm_val, nm_fresh, nm_stt, sl_val, sl_brw, sl_stt, ty_int, ty_tt, ty_tv, ty_lv, ty_tf, ty_lf, ty_tb, ty_lb, ty_lt, slc_tup, slc_v, slc_f, slc_b, slc_str, ti, li, p2, it_sq, len_sq, rng_1, rng_2, it_sqR, len_sqR, rd_sqR, as_sqR, sq] at fin ⊢
    exact fin
theorem back_keeps (h1 : KnF C "_law_go" fsGo 0) : Keeps C ir_law_back n_law_back ["ends", "number"] fsBack := by
  refine keeps_of fun a P X hd hP => ⟨rfl, ?_⟩
  obtain ⟨b, es, n⟩ := a
  have hQ : P (.val (.int (ledBack es n))) := hP _ rfl
  obtain ⟨g, gb⟩ := hd
  simp only at g gb
  have k1 := g.lo
  have k2 := g.hi
  have hl : (0 : Int) < es.length := by omega
  have hn : (en es).map (fun p => p.2 - p.1) ≠ [] := by
    intro z
    have := congrArg List.length z
    simp [en_length] at this
    subst this
    simp at k1
  have m1 : 0 ≤ mx ((en es).map fun p => p.2 - p.1) := by
    have := g.far 0
    have := g.up 0
    omega
  have m2 : mx ((en es).map fun p => p.2 - p.1) ≤ 2 ^ 40 := by
    obtain ⟨p, hp, e⟩ := List.mem_map.mp (mx_spec hn).1
    obtain ⟨q1, q2, q3⟩ := mem_en2 hp
    have := gb p.1 q1 q2
    omega
  obtain ⟨B1, B2⟩ := g.back n
  have B3 : ledBack es n ≤ n := Int.le_trans (g.up _) B1
  have loop : ∀ (f : Int), f = mx ((en es).map fun p => p.2 - p.1) → ∀ (s2 s5 s6 : Sl) (W : WD), W.rt (.val (.int (ledBack es n))) → wS C (.seq (.for_ (.nm 2) (.itRng (.cons (.bin .add (.var 3) (eI 1)) .nil)) 64 (.seq (.ifs (.cmp .gt (.call "_law_go" (.cons (.var 0) (.cons (.var 4) .nil))) (.var 1)) (.seq (.asg (.nm 4) (.bin .sub (.var 4) (eI 1))) (.seq (.frz 4) .skip)) .skip) .skip)) (.seq (.retV 4) .skip)) [.val (sq b (es.map D.int)), .val (.int n), s2, .val (.int f), .val (.int n), s5, s6] W X := by
    intro f hf s2 s5 s6 W hW
    simp [wS, wE, wEs, wT, wC, wO, wIt, wipeD, frzD, Cst.d, asAll, startD, wEq_int, wEq_str, wEq_bl, wBi_len, wBi_abs, wBi_min2, wBi_max2, see_val, see_fresh, see_brw, dat_val, dat_fresh, out_val, out_fresh, out_stt, tru_non, tru_bl, tru_int, tru_lst, tru_tup, tru_fresh, tru_brw, as_vv, as_vf, as_s, as_av, as_af, as_ab, as_bf, as_bb, as_bl, lv_lst, lv_fresh, lv_brw, int_int, len_lst, len_tup, len_frl, len_fresh, len_brw, rd_val, rd_own, rd_bor, rd_stt, it_lst, it_tup, it_frl, it_fresh, it_brw, bin_add, bin_sub, bin_mul, bin_fdiv, bin_mod, bin_pow, bin_str, cat_vv, cat_vf, cat_vb, rep_v, cat_fv, cat_ff, cat_fb, rep_f, cat_bv, cat_bf, cat_bb, rep_b, cmp_eq_vv, cmp_eq_fv, cmp_eq_vf, cmp_eq_ff, cmp_eq_fb, cmp_eq_bv, cmp_eq_vb, cmp_eq_bf, cmp_eq_bb, cmp_ne_vv, cmp_ne_fv, cmp_ne_vf, cmp_ne_ff, cmp_ne_fb, cmp_ne_bv, cmp_ne_vb, cmp_ne_bf, cmp_ne_bb, cmp_lt, cmp_le, cmp_gt, cmp_ge, cmp_is_non, cmp_isn_non, cmp_is_bl, cmp_isn_bl, isNon_non, isNon_int, isNon_str, isNon_lst, isNon_tup, isNon_frl, isNon_obj, isNon_bl, ix_tup, ix_v, ix_f, ix_b, tg_nm, tg_t2, tg_t3, asg_nm, asg_t2, asg_t3, nm_val, nm_fresh, nm_stt, sl_val, sl_brw, sl_stt, ty_int, ty_tt, ty_tv, ty_lv, ty_tf, ty_lf, ty_tb, ty_lb, ty_lt, slc_tup, slc_v, slc_f, slc_b, slc_str, ti, li, p2, it_sq, len_sq, rng_1, rng_2, it_sqR, len_sqR, rd_sqR, as_sqR, costS, costE, h1.2]
    refine ⟨by omega, ?_⟩
    refine forD_of (fun xs δ => ∃ (ys : List Int) (a : Int) (s2 : Sl), xs = ys.map D.int ∧ (ys.length : Int) ≤ f + 1 ∧ ledBack es n ≤ a ∧ a ≤ n ∧ (a = ledBack es n ∨ a = n - (f + 1 - ys.length)) ∧ δ = [.val (sq b (es.map D.int)), .val (.int n), s2, .val (.int f), .val (.int a), s5, s6]) ?_ ?_ ⟨rg (f + 1).toNat, n, s2, rfl, by rw [rg_length]; omega, B3, Int.le_refl _, .inr (by rw [rg_length]; omega), rfl⟩
    · rintro δ ⟨ys, a, s2, e1, e2, e3, e4, e5, rfl⟩
      have : ys = [] := by simpa using e1.symm
      subst this
      have ea : a = ledBack es n := by
        rcases e5 with e5 | e5
        · exact e5
        · simp at e5
          have := g.far a
          exact Int.le_antisymm (B2 _ (by omega)) e3
      subst ea
      simp [wS, wE, wEs, wT, wC, wO, wIt, wipeD, frzD, Cst.d, asAll, startD, wEq_int, wEq_str, wEq_bl, wBi_len, wBi_abs, wBi_min2, wBi_max2, see_val, see_fresh, see_brw, dat_val, dat_fresh, out_val, out_fresh, out_stt, tru_non, tru_bl, tru_int, tru_lst, tru_tup, tru_fresh, tru_brw, as_vv, as_vf, as_s, as_av, as_af, as_ab, as_bf, as_bb, as_bl, lv_lst, lv_fresh, lv_brw, int_int, len_lst, len_tup, len_frl, len_fresh, len_brw, rd_val, rd_own, rd_bor, rd_stt, it_lst, it_tup, it_frl, it_fresh, it_brw, bin_add, bin_sub, bin_mul, bin_fdiv, bin_mod, bin_pow, bin_str, cat_vv, cat_vf, cat_vb, rep_v, cat_fv, cat_ff, cat_fb, rep_f, cat_bv, cat_bf, cat_bb, rep_b, cmp_eq_vv, cmp_eq_fv, cmp_eq_vf, cmp_eq_ff, cmp_eq_fb, cmp_eq_bv, cmp_eq_vb, cmp_eq_bf, cmp_eq_bb, cmp_ne_vv, cmp_ne_fv, cmp_ne_vf, cmp_ne_ff, cmp_ne_fb, cmp_ne_bv, cmp_ne_vb, cmp_ne_bf, cmp_ne_bb, cmp_lt, cmp_le, cmp_gt, cmp_ge, cmp_is_non, cmp_isn_non, cmp_is_bl, cmp_isn_bl, isNon_non, isNon_int, isNon_str, isNon_lst, isNon_tup, isNon_frl, isNon_obj, isNon_bl, ix_tup, ix_v, ix_f, ix_b, tg_nm, tg_t2, tg_t3, asg_nm, asg_t2, asg_t3, nm_val, nm_fresh, nm_stt, sl_val, sl_brw, sl_stt, ty_int, ty_tt, ty_tv, ty_lv, ty_tf, ty_lf, ty_tb, ty_lb, ty_lt, slc_tup, slc_v, slc_f, slc_b, slc_str, ti, li, p2, it_sq, len_sq, rng_1, rng_2, it_sqR, len_sqR, rd_sqR, as_sqR]
      exact hW
    · rintro x xs δ k ⟨ys, a, s2, e1, e2, e3, e4, e5, rfl⟩ hk
      cases ys with
      | nil => cases e1
      | cons y ys =>
        simp only [List.map_cons, List.cons.injEq] at e1
        obtain ⟨rfl, e1⟩ := e1
        simp only [List.length_cons] at e2 e5
        simp [wS, wE, wEs, wT, wC, wO, wIt, wipeD, frzD, Cst.d, asAll, startD, wEq_int, wEq_str, wEq_bl, wBi_len, wBi_abs, wBi_min2, wBi_max2, see_val, see_fresh, see_brw, dat_val, dat_fresh, out_val, out_fresh, out_stt, tru_non, tru_bl, tru_int, tru_lst, tru_tup, tru_fresh, tru_brw, as_vv, as_vf, as_s, as_av, as_af, as_ab, as_bf, as_bb, as_bl, lv_lst, lv_fresh, lv_brw, int_int, len_lst, len_tup, len_frl, len_fresh, len_brw, rd_val, rd_own, rd_bor, rd_stt, it_lst, it_tup, it_frl, it_fresh, it_brw, bin_add, bin_sub, bin_mul, bin_fdiv, bin_mod, bin_pow, bin_str, cat_vv, cat_vf, cat_vb, rep_v, cat_fv, cat_ff, cat_fb, rep_f, cat_bv, cat_bf, cat_bb, rep_b, cmp_eq_vv, cmp_eq_fv, cmp_eq_vf, cmp_eq_ff, cmp_eq_fb, cmp_eq_bv, cmp_eq_vb, cmp_eq_bf, cmp_eq_bb, cmp_ne_vv, cmp_ne_fv, cmp_ne_vf, cmp_ne_ff, cmp_ne_fb, cmp_ne_bv, cmp_ne_vb, cmp_ne_bf, cmp_ne_bb, cmp_lt, cmp_le, cmp_gt, cmp_ge, cmp_is_non, cmp_isn_non, cmp_is_bl, cmp_isn_bl, isNon_non, isNon_int, isNon_str, isNon_lst, isNon_tup, isNon_frl, isNon_obj, isNon_bl, ix_tup, ix_v, ix_f, ix_b, tg_nm, tg_t2, tg_t3, asg_nm, asg_t2, asg_t3, nm_val, nm_fresh, nm_stt, sl_val, sl_brw, sl_stt, ty_int, ty_tt, ty_tv, ty_lv, ty_tf, ty_lf, ty_tb, ty_lb, ty_lt, slc_tup, slc_v, slc_f, slc_b, slc_str, ti, li, p2, it_sq, len_sq, rng_1, rng_2, it_sqR, len_sqR, rd_sqR, as_sqR, h1.1]
        refine wcall_of (α := Bool × List Int × Int) (b, es, a) (by cases b <;> rfl) ⟨k1, k2⟩ ?_
        rintro r rfl
        simp only [lawGo_eq]
        by_cases q : n < ledOn es a
        · simp [wS, wE, wEs, wT, wC, wO, wIt, wipeD, frzD, Cst.d, asAll, startD, wEq_int, wEq_str, wEq_bl, wBi_len, wBi_abs, wBi_min2, wBi_max2, see_val, see_fresh, see_brw, dat_val, dat_fresh, out_val, out_fresh, out_stt, tru_non, tru_bl, tru_int, tru_lst, tru_tup, tru_fresh, tru_brw, as_vv, as_vf, as_s, as_av, as_af, as_ab, as_bf, as_bb, as_bl, lv_lst, lv_fresh, lv_brw, int_int, len_lst, len_tup, len_frl, len_fresh, len_brw, rd_val, rd_own, rd_bor, rd_stt, it_lst, it_tup, it_frl, it_fresh, it_brw, bin_add, bin_sub, bin_mul, bin_fdiv, bin_mod, bin_pow, bin_str, cat_vv, cat_vf, cat_vb, rep_v, cat_fv, cat_ff, cat_fb, rep_f, cat_bv, cat_bf, cat_bb, rep_b, cmp_eq_vv, cmp_eq_fv, cmp_eq_vf, cmp_eq_ff, cmp_eq_fb, cmp_eq_bv, cmp_eq_vb, cmp_eq_bf, cmp_eq_bb, cmp_ne_vv, cmp_ne_fv, cmp_ne_vf, cmp_ne_ff, cmp_ne_fb, cmp_ne_bv, cmp_ne_vb, cmp_ne_bf, cmp_ne_bb, cmp_lt, cmp_le, cmp_gt, cmp_ge, cmp_is_non, cmp_isn_non, cmp_is_bl, cmp_isn_bl, isNon_non, isNon_int, isNon_str, isNon_lst, isNon_tup, isNon_frl, isNon_obj, isNon_bl, ix_tup, ix_v, ix_f, ix_b, tg_nm, tg_t2, tg_t3, asg_nm, asg_t2, asg_t3, nm_val, nm_fresh, nm_stt, sl_val, sl_brw, sl_stt, ty_int, ty_tt, ty_tv, ty_lv, ty_tf, ty_lf, ty_tb, ty_lb, ty_lt, slc_tup, slc_v, slc_f, slc_b, slc_str, ti, li, p2, it_sq, len_sq, rng_1, rng_2, it_sqR, len_sqR, rd_sqR, as_sqR, q]
          have ne : a ≠ ledBack es n := by
            rintro rfl
            omega
          refine hk _ ⟨ys, a - 1, .val (.int y), e1, by omega, by omega, by omega, ?_, rfl⟩
          rcases e5 with e5 | e5
          · exact absurd e5 ne
          · exact .inr (by omega)
        · simp [wS, wE, wEs, wT, wC, wO, wIt, wipeD, frzD, Cst.d, asAll, startD, wEq_int, wEq_str, wEq_bl, wBi_len, wBi_abs, wBi_min2, wBi_max2, see_val, see_fresh, see_brw, dat_val, dat_fresh, out_val, out_fresh, out_stt, tru_non, tru_bl, tru_int, tru_lst, tru_tup, tru_fresh, tru_brw, as_vv, as_vf, as_s, as_av, as_af, as_ab, as_bf, as_bb, as_bl, lv_lst, lv_fresh, lv_brw, int_int, len_lst, len_tup, len_frl, len_fresh, len_brw, rd_val, rd_own, rd_bor, rd_stt, it_lst, it_tup, it_frl, it_fresh, it_brw, bin_add, bin_sub, bin_mul, bin_fdiv, bin_mod, bin_pow, bin_str, cat_vv, cat_vf, cat_vb, rep_v, cat_fv, cat_ff, cat_fb, rep_f, cat_bv, cat_bf, cat_bb, rep_b, cmp_eq_vv, cmp_eq_fv, cmp_eq_vf, cmp_eq_ff, cmp_eq_fb, cmp_eq_bv, cmp_eq_vb, cmp_eq_bf, cmp_eq_bb, cmp_ne_vv, cmp_ne_fv, cmp_ne_vf, cmp_ne_ff, cmp_ne_fb, cmp_ne_bv, cmp_ne_vb, cmp_ne_bf, cmp_ne_bb, cmp_lt, cmp_le, cmp_gt, cmp_ge, cmp_is_non, cmp_isn_non, cmp_is_bl, cmp_isn_bl, isNon_non, isNon_int, isNon_str, isNon_lst, isNon_tup, isNon_frl, isNon_obj, isNon_bl, ix_tup, ix_v, ix_f, ix_b, tg_nm, tg_t2, tg_t3, asg_nm, asg_t2, asg_t3, nm_val, nm_fresh, nm_stt, sl_val, sl_brw, sl_stt, ty_int, ty_tt, ty_tv, ty_lv, ty_tf, ty_lf, ty_tb, ty_lb, ty_lt, slc_tup, slc_v, slc_f, slc_b, slc_str, ti, li, p2, it_sq, len_sq, rng_1, rng_2, it_sqR, len_sqR, rd_sqR, as_sqR, q]
          refine hk _ ⟨ys, a, .val (.int y), e1, by omega, e3, e4, ?_, rfl⟩
          exact .inl (Int.le_antisymm (B2 _ (by omega)) e3)
  have fin := fun s2 s5 s6 => loop _ rfl s2 s5 s6 { nx := fun _ => P (.val .non), rt := P } hQ
  cases b
  all_goals
    show wS C (.seq (.par 3 4 (.bi "max" (.cons (.comp (.bin .sub (.var 6) (.var 5)) (.t2 (.nm 5) (.nm 6)) (.itEnum (.var 0)) .nil [("at", 5), ("end", 6)] 64) .nil)) (.var 1)) _) _ _ _
    generalize hT : (St.seq (.for_ (.nm 2) (.itRng (.cons (.bin .add (.var 3) (eI 1)) .nil)) 64 (.seq (.ifs (.cmp .gt (.call "_law_go" (.cons (.var 0) (.cons (.var 4) .nil))) (.var 1)) (.seq (.asg (.nm 4) (.bin .sub (.var 4) (eI 1))) (.seq (.frz 4) .skip)) .skip) .skip)) (.seq (.retV 4) .skip)) = T at fin
    simp [n_law_back, wS, wE, wEs, wT, wC, wO, wIt, wipeD, frzD, Cst.d, asAll, startD, wEq_int, wEq_str, wEq_bl, wBi_len, wBi_abs, wBi_min2, wBi_max2, see_val, see_fresh, see_brw, dat_val, dat_fresh, out_val, out_fresh, out_stt, tru_non, tru_bl, tru_int, tru_lst, tru_tup, tru_fresh, tru_brw, as_vv, as_vf, as_s, as_av, as_af, as_ab, as_bf, as_bb, as_bl, lv_lst, lv_fresh, lv_brw, int_int, len_lst, len_tup, len_frl, len_fresh, len_brw, rd_val, rd_own, rd_bor, rd_stt, it_lst, it_tup, it_frl, it_fresh, it_brw, bin_add, bin_sub, bin_mul, bin_fdiv, bin_mod, bin_pow, bin_str, cat_vv, cat_vf, cat_vb, rep_v, cat_fv, cat_ff, cat_fb, rep_f, cat_bv, cat_bf, cat_bb, rep_b, cmp_eq_vv, cmp_eq_fv, cmp_eq_vf, cmp_eq_ff, cmp_eq_fb, cmp_eq_bv, cmp_eq_vb, cmp_eq_bf, cmp_eq_bb, cmp_ne_vv, cmp_ne_fv, cmp_ne_vf, cmp_ne_ff, cmp_ne_fb, cmp_ne_bv, cmp_ne_vb, cmp_ne_bf, cmp_ne_bb, cmp_lt, cmp_le, cmp_gt, cmp_ge, cmp_is_non, cmp_isn_non, cmp_is_bl, cmp_isn_bl, isNon_non, isNon_int, isNon_str, isNon_lst, isNon_tup, isNon_frl, isNon_obj, isNon_bl, ix_tup, ix_v, ix_f, ix_b, tg_nm, tg_t2, tg_t3, asg_nm, asg_t2, asg_t3, nm_val, nm_fresh, nm_stt, sl_val, sl_brw, sl_stt, ty_int, ty_tt, ty_tv, ty_lv, ty_tf, ty_lf, ty_tb, ty_lb, ty_lt, slc_tup, slc_v, slc_f, slc_b, slc_str, ti, li, p2, it_sq, len_sq, rng_1, rng_2, it_sqR, len_sqR, rd_sqR, as_sqR, sq, enumD_ints, en_length, costE] at fin ⊢
    refine ⟨size_big (by omega), ?_⟩
    refine walk_map (g := p2) (f := fun p => .int (p.2 - p.1)) (fun p hp acc k hk => ?_) ?_
    · simpa [wS, wE, wEs, wT, wC, wO, wIt, wipeD, frzD, Cst.d, asAll, startD, wEq_int, wEq_str, wEq_bl, wBi_len, wBi_abs, wBi_min2, wBi_max2, see_val, see_fresh, see_brw, dat_val, dat_fresh, out_val, out_fresh, out_stt, tru_non, tru_bl, tru_int, tru_lst, tru_tup, tru_fresh, tru_brw, as_vv, as_vf, as_s, as_av, as_af, as_ab, as_bf, as_bb, as_bl, lv_lst, lv_fresh, lv_brw, int_int, len_lst, len_tup, len_frl, len_fresh, len_brw, rd_val, rd_own, rd_bor, rd_stt, it_lst, it_tup, it_frl, it_fresh, it_brw, bin_add, bin_sub, bin_mul, bin_fdiv, bin_mod, bin_pow, bin_str, cat_vv, cat_vf, cat_vb, rep_v, cat_fv, cat_ff, cat_fb, rep_f, cat_bv, cat_bf, cat_bb, rep_b, cmp_eq_vv, cmp_eq_fv, cmp_eq_vf, cmp_eq_ff, cmp_eq_fb, cmp_eq_bv, cmp_eq_vb, cmp_eq_bf, cmp_eq_bb, cmp_ne_vv, cmp_ne_fv, cmp_ne_vf, cmp_ne_ff, cmp_ne_fb, cmp_ne_bv, cmp_ne_vb, cmp_ne_bf, cmp_ne_bb, cmp_lt, cmp_le, cmp_gt, cmp_ge, cmp_is_non, cmp_isn_non, cmp_is_bl, cmp_isn_bl, isNon_non, isNon_int, isNon_str, isNon_lst, isNon_tup, isNon_frl, isNon_obj, isNon_bl, ix_tup, ix_v, ix_f, ix_b, tg_nm, tg_t2, tg_t3, asg_nm, asg_t2, asg_t3, nm_val, nm_fresh, nm_stt, sl_val, sl_brw, sl_stt, ty_int, ty_tt, ty_tv, ty_lv, ty_tf, ty_lf, ty_tb, ty_lb, ty_lt, slc_tup, slc_v, slc_f, slc_b, slc_str, ti, li, p2, it_sq, len_sq, rng_1, rng_2, it_sqR, len_sqR, rd_sqR, as_sqR] using hk
    · refine wmax_of (ns := (en es).map fun (p : Int × Int) => p.2 - p.1) (by simp [R.sv, R.lv, Function.comp_def]) hn ?_
      simp [wS, wE, wEs, wT, wC, wO, wIt, wipeD, frzD, Cst.d, asAll, startD, wEq_int, wEq_str, wEq_bl, wBi_len, wBi_abs, wBi_min2, wBi_max2, see_val, see_fresh, see_brw, dat_val, dat_fresh, out_val, out_fresh, out_stt, tru_non, tru_bl, tru_int, tru_lst, tru_tup, tru_fresh, tru_brw, as_vv, as_vf, as_s, as_av, as_af, as_ab, as_bf, as_bb, as_bl, lv_lst, lv_fresh, lv_brw, int_int, len_lst, len_tup, len_frl, len_fresh, len_brw, rd_val, rd_own, rd_bor, rd_stt, it_lst, it_tup, it_frl, it_fresh, it_brw, bin_add, bin_sub, bin_mul, bin_fdiv, bin_mod, bin_pow, bin_str, cat_vv, cat_vf, cat_vb, rep_v, cat_fv, cat_ff, cat_fb, rep_f, cat_bv, cat_bf, cat_bb, rep_b, cmp_eq_vv, cmp_eq_fv, cmp_eq_vf, cmp_eq_ff, cmp_eq_fb, cmp_eq_bv, cmp_eq_vb, cmp_eq_bf, cmp_eq_bb, cmp_ne_vv, cmp_ne_fv, cmp_ne_vf, cmp_ne_ff, cmp_ne_fb, cmp_ne_bv, cmp_ne_vb, cmp_ne_bf, cmp_ne_bb, cmp_lt, cmp_le, cmp_gt, cmp_ge, cmp_is_non, cmp_isn_non, cmp_is_bl, cmp_isn_bl, isNon_non, isNon_int, isNon_str, isNon_lst, isNon_tup, isNon_frl, isNon_obj, isNon_bl, ix_tup, ix_v, ix_f, ix_b, tg_nm, tg_t2, tg_t3, asg_nm, asg_t2, asg_t3, nm_val, nm_fresh, nm_stt, sl_val, sl_brw, sl_stt, ty_int, ty_tt, ty_tv, ty_lv, ty_tf, ty_lf, ty_tb, ty_lb, ty_lt, slc_tup, slc_v, slc_f, slc_b, slc_str, ti, li, p2, it_sq, len_sq, rng_1, rng_2, it_sqR, len_sqR, rd_sqR, as_sqR, hT]
      exact fin _ _ _
end
end Dl

set_option Elab.async false
set_option linter.all false
set_option maxRecDepth 100000
set_option maxHeartbeats 4000000
/-! k00: the law. -/
namespace Dl.K00
open PySem PySem.Spec PyProof.Rows L2
def n_law : List Str := ["script", "state", "turn", "length", "rides", "handed", "lap", "moved", "other", "far", "daily", "ends", "number", "begin", "end"]
def ir_l_1 : St :=
(.seq (.ret (.cst (.bl false))) .skip)
def ir_l_2 : St :=
(.seq (.ret (.cst (.bl false))) .skip)
def ir_l_3 : St :=
(.seq (.ifs (.not_ (.tr (.callG "_law_is" (.cons (.lst (.cons (.meth "Daily" "end" (.var 10) (.cons (.var 12) .nil)) (.cons (.meth "Daily" "begin" (.var 10) (.cons (.var 12) .nil)) .nil))) (.cons (.lst (.cons (.call "_law_go" (.cons (.var 11) (.cons (.var 12) .nil))) (.cons (.call "_law_back" (.cons (.var 11) (.cons (.var 12) .nil))) .nil))) .nil))))) ir_l_2 .skip) .skip)
def ir_l_4 : St :=
(.seq (.asg (.nm 12) (.call "_law_pick" (.cons (.var 1) (.cons (.lst (.cons (.call "_law_draw" (.cons (.var 1) (.cons (.var 3) .nil))) (.cons (.bin .sub (.call "_law_draw" (.cons (.var 1) (.cons (.bin .mul (eI 5) (.var 3)) .nil))) (.bin .mul (eI 3) (.var 3))) (.cons (.bin .add (.bin .pow (eI 10) (eI 30)) (.call "_law_draw" (.cons (.var 1) (.cons (.var 3) .nil)))) (.cons (.bin .sub (eI 0) (.bin .pow (eI 10) (eI 20))) .nil))))) .nil)))) (.seq (.frz 12) ir_l_3))
def ir_l_5 : St :=
(.seq (.ret (.cst (.bl false))) .skip)
def ir_l_6 : St :=
(.seq (.ret (.cst (.bl false))) .skip)
def ir_l_7 : St :=
(.seq (.ifs (.or_ (.op2 (.one "Daily") (.mk "Daily" (.cons (.var 3) (.cons (.prp "Daily" "rides" (.var 10)) .nil))) (.var 10)) (.op2 (.ocv .eq "Daily") (.var 10) (.tup (.cons (.var 3) (.cons (.prp "Daily" "rides" (.var 10)) .nil))))) ir_l_6 .skip) .skip)
def ir_l_8 : St :=
(.seq (.ifs (.or_ (.not_ (.tr (.call "_law_says" (.cons (.op2 (.ocm .eq "Daily") (.var 10) (.var 8)) (.cons (.cst (.bl true)) .nil))))) (.not_ (.tr (.call "_law_says" (.cons (.op2 (.ocm .eq "Daily") (.var 10) (.mk "Daily" (.cons (.var 3) (.cons (.ty "list" (.cons (.var 9) .nil)) .nil)))) (.cons (.cmp .eq (.call "_law_map" (.cons (.var 3) (.cons (.var 9) .nil))) (.var 11)) .nil)))))) ir_l_5 .skip) ir_l_7)
def ir_l_9 : St :=
(.seq (.asg (.nm 9) (.tup (.cons (.tup (.cons (eI 0) (.cons (.bin .add (.idx (.var 11) (eI 0)) (.var 3)) .nil))) .nil))) ir_l_8)
def ir_l_10 : St :=
(.seq (.asg (.nm 8) (.mkK "Daily" ["rides", "length"] (.cons (.bin .add (.call "_law_shuffled" (.cons (.var 1) (.cons (.slc (.var 7) .nil (.cons (eI 60) .nil)) .nil))) (.slc (.lst (.cons (.tup (.cons (eI 0) (.cons (.bin .add (.idx (.var 11) (eI 0)) (eI 2)) .nil))) .nil)) .nil (.cons (.bin .sub (eI 60) (.bi "len" (.cons (.slc (.var 7) .nil (.cons (eI 60) .nil)) .nil))) .nil))) (.cons (.var 3) .nil)))) ir_l_9)
def ir_l_11 : St :=
(.seq (.asg (.nm 7) (.comp (.tup (.cons (.bin .add (.var 13) (.bin .mul (.var 3) (.var 6))) (.cons (.bin .add (.var 14) (.bin .mul (.var 3) (.var 6))) .nil))) (.t2 (.nm 6) (.t2 (.nm 13) (.nm 14))) (.itEnum (.bin .add (.var 4) (.slc (.var 4) .nil (.cons (eI 3) .nil)))) .nil [("lap", 6), ("begin", 13), ("end", 14)] 64)) (.seq (.frz 7) ir_l_10))
def ir_l_12 : St :=
(.seq (.for_ (.nm 6) (.itRng (.cons (eI 8) .nil)) 64 ir_l_4) ir_l_11)
def ir_l_13 : St :=
(.seq (.ifs (.not_ (.tr (.callG "_law_is" (.cons (.lst (.cons (.prp "Daily" "length" (.var 10)) (.cons (.prp "Daily" "rides" (.var 10)) .nil))) (.cons (.lst (.cons (.var 3) (.cons (.call "_law_needed" (.cons (.var 11) .nil)) .nil))) .nil))))) ir_l_1 .skip) ir_l_12)
def ir_l_14 : St :=
(.seq (.clr 5) (.seq (.frz 5) ir_l_13))
def ir_l_15 : St :=
(.seq (.par 10 11 (.mk "Daily" (.cons (.var 3) (.cons (.var 5) .nil))) (.call "_law_map" (.cons (.var 3) (.cons (.var 4) .nil)))) (.seq (.frz 11) ir_l_14))
def ir_l_16 : St :=
(.seq (.asg (.nm 5) (.ty "list" (.cons (.var 4) .nil))) ir_l_15)
def ir_l_17 : St :=
(.seq (.asg (.nm 4) (.call "_law_some_rides" (.cons (.var 1) (.cons (.var 3) .nil)))) (.seq (.frz 4) ir_l_16))
def ir_l_18 : St :=
(.seq (.asg (.nm 3) (.call "_law_some_length" (.cons (.var 1) .nil))) (.seq (.frz 3) ir_l_17))
def ir_l_19 : St :=
(.seq (.ret (.cst (.bl true))) .skip)
def ir_l_20 : St :=
(.seq (.for_ (.nm 2) (.itRng (.cons (.bin .add (eI 5) (.bi "min" (.cons (.bi "len" (.cons (.var 0) .nil)) (.cons (eI 10) .nil)))) .nil)) 64 ir_l_18) ir_l_19)
def ir_law : St :=
ir_l_20

structure Kn (C : Ct) : Prop where
  len : KnF C "_law_some_length" fsSomeLength 2
  rid : KnF C "_law_some_rides" fsSomeRides 196
  day : KnI C "Daily" fsDaily 0
  dkw : C.inK "Daily" ["rides", "length"] = some ([1, 0], fsDaily) ∧ C.ck "Daily" ["rides", "length"] = 0
  map : KnF C "_law_map" fsMap 0
  go : KnF C "_law_go" fsGo 0
  back : KnF C "_law_back" fsBack 0
  need : KnF C "_law_needed" fsNeeded 0
  draw : KnF C "_law_draw" fsDraw 1
  pick : KnF C "_law_pick" fsPick 1
  shuf : KnF C "_law_shuffled" fsShuffled 65
  says : KnF C "_law_says" fsSays 0
  is : C.fnG "_law_is" = some fsIs ∧ C.cf "_law_is" = 0
  own : C.own "Daily" = true
  eq : KnM C "Daily" "__eq__" fsDEq 0
  en : KnM C "Daily" "end" fsDEnd 0
  be : KnM C "Daily" "begin" fsDBegin 0
  le : KnP C "Daily" "length" fsDLen
  ri : KnP C "Daily" "rides" fsDRides
theorem ex13 {t : List Sl} (h : t.length = 13) : ∃ a b c d e f g h i j k l m, t = [a, b, c, d, e, f, g, h, i, j, k, l, m] := by
  match t, h with
  | [a, b, c, d, e, f, g, h, i, j, k, l, m], _ => exact ⟨a, b, c, d, e, f, g, h, i, j, k, l, m, rfl⟩
abbrev WB (k : List Sl → Prop) (bk : List Sl → Prop) : WD := { nx := k, rt := fun r => r = .val (.bl true), bk := bk, ct := k }
/-! ### what may be shown -/
/-- plain, small, few -/
structure Fine (d : D) (n b : Nat) : Prop where
  ex : ∃ p, d.py = some p ∧ p.showable = true ∧ p.canLay0 = true ∧ p.depth ≤ n ∧ p.bulk ≤ b
  pl : ∀ m, n ≤ m → d.plain m = true
theorem Fine.mono {d : D} {n b n' b' : Nat} (h : Fine d n b) (h1 : n ≤ n') (h2 : b ≤ b') : Fine d n' b' := by
  obtain ⟨⟨p, e1, e2, e3, e4, e5⟩, e6⟩ := h
  exact ⟨⟨p, e1, e2, e3, by omega, by omega⟩, fun m hm => e6 m (by omega)⟩
theorem Fine.int {i : Int} {n b : Nat} (h : i.natAbs < 2 ^ 1000) : Fine (.int i) n b := by
  refine ⟨⟨.int i, rfl, ?_, rfl, Nat.zero_le _, Nat.zero_le _⟩, fun m _ => by simp [D.plain]⟩
  have := ints_show (xs := [i]) (by simpa using h)
  simpa [PyData.showableAll] using this
theorem Fine.all {xs : List D} {n b : Nat} (h : ∀ d ∈ xs, Fine d n b) : (∃ ps, D.pys xs = some ps ∧ PyData.showableAll ps = true ∧ PyData.canLayAll0 ps = true ∧ PyData.depthAll ps ≤ n ∧ PyData.bulkAll ps ≤ xs.length * (b + 1)) ∧ ∀ m, n ≤ m → D.plains xs m = true := by
  induction xs with
  | nil => exact ⟨⟨[], rfl, rfl, rfl, Nat.zero_le _, Nat.zero_le _⟩, fun _ _ => rfl⟩
  | cons x xs ih =>
    obtain ⟨⟨ps, e1, e2, e3, e4, e5⟩, e6⟩ := ih fun d hd => h d (by simp [hd])
    obtain ⟨⟨p, q1, q2, q3, q4, q5⟩, q6⟩ := h x (by simp)
    refine ⟨⟨p :: ps, by simp [D.pys, q1, e1], by simp [PyData.showableAll, q2, e2], by simp [PyData.canLayAll0, q3, e3], ?_, ?_⟩, fun m hm => by simp [D.plains, q6 m hm, e6 m hm]⟩
    · simp only [PyData.depthAll]; omega
    · simp only [PyData.bulkAll, List.length_cons, Nat.add_mul]; omega
theorem Fine.lst {xs : List D} {n b : Nat} (h : ∀ d ∈ xs, Fine d n b) (hl : xs.length < 10000) : Fine (.lst xs) (n + 1) (xs.length * (b + 1)) := by
  obtain ⟨⟨ps, e1, e2, e3, e4, e5⟩, e6⟩ := Fine.all h
  refine ⟨⟨.list ps, by simp [D.py, e1], by simpa [PyData.showable] using e2, by simpa [PyData.canLay0] using e3, by simp only [PyData.depth]; omega, by simpa [PyData.bulk] using e5⟩, fun m hm => ?_⟩
  obtain ⟨k, rfl⟩ : ∃ k, m = k + 1 := ⟨m - 1, by omega⟩
  simp [D.plain, hl, e6 k (by omega)]
theorem Fine.tup {xs : List D} {n b : Nat} (h : ∀ d ∈ xs, Fine d n b) (hl : xs.length < 10000) : Fine (.tup xs) (n + 1) (xs.length * (b + 1)) := by
  obtain ⟨⟨ps, e1, e2, e3, e4, e5⟩, e6⟩ := Fine.all h
  refine ⟨⟨.tuple ps, by simp [D.py, e1], by simpa [PyData.showable] using e2, by simpa [PyData.canLay0] using e3, by simp only [PyData.depth]; omega, by simpa [PyData.bulk] using e5⟩, fun m hm => ?_⟩
  obtain ⟨k, rfl⟩ : ∃ k, m = k + 1 := ⟨m - 1, by omega⟩
  simp [D.plain, hl, e6 k (by omega)]
theorem Fine.p2 {p : Int × Int} (h1 : p.1.natAbs < 2 ^ 1000) (h2 : p.2.natAbs < 2 ^ 1000) : Fine (p2 p) 1 2 := by
  have := Fine.tup (xs := [.int p.1, .int p.2]) (n := 0) (b := 0) (fun d hd => by
    simp only [List.mem_cons, List.not_mem_nil, or_false] at hd
    rcases hd with rfl | rfl
    · exact Fine.int h1
    · exact Fine.int h2) (by simp)
  simpa using this
theorem Fine.two {a c : D} {n b : Nat} (h1 : Fine a n b) (h2 : Fine c n b) : Fine (.lst [a, c]) (n + 1) (2 * (b + 1)) := by
  refine Fine.lst (xs := [a, c]) (fun d hd => ?_) (by simp)
  simp only [List.mem_cons, List.not_mem_nil, or_false] at hd
  rcases hd with rfl | rfl
  · exact h1
  · exact h2
theorem is_fine {d : D} {xs : List D} {n b : Nat} {P : R → Prop} {X : XD → Prop} (e : d = .lst xs) (h : Fine d n b) (hn : n ≤ 7) (hb : b ≤ 8000) (hP : P (.val (.bl true))) : wCall fsIs [.fresh xs, .fresh xs] P X := by
  subst e
  obtain ⟨⟨p, e1, e2, e3, e4, e5⟩, e6⟩ := h
  exact is_call (e6 7 hn) e1 (by simp [okP, e2, e3]; omega) hP
theorem big {x : Int} (h1 : -(2 ^ 300) ≤ x) (h2 : x ≤ 2 ^ 300) : x.natAbs < 2 ^ 1000 := by
  have : x.natAbs ≤ 2 ^ 300 := by omega
  exact Nat.lt_of_le_of_lt this (by decide)
theorem cut_take {xs : List D} {k : Int} (h : 0 ≤ k) : cutD xs none (some k) = xs.take k.toNat := by
  obtain ⟨j, rfl⟩ : ∃ j : Nat, k = (j : Int) := ⟨k.toNat, by omega⟩
  unfold cutD
  rw [HT.sIx_none, HT.sIx_nat, List.drop_zero, Nat.sub_zero, Int.toNat_natCast, List.take_eq_take_iff]
  simp
/-! ### rides that were moved -/
theorem far_le {es : List Int} (g : Good es) (hb : ∀ n : Int, 0 ≤ n → n < es.length → ledOn es n ≤ 1000) (x : Int) : ledOn es x ≤ x + 1000 := by
  have hl : (0 : Int) < es.length := by have := g.lo; omega
  have e0 := div_mod x es.length
  have e1 := per_ledOn g.lo (x % es.length) (x / es.length)
  rw [e0] at e1
  have b0 := Int.emod_nonneg x (b := (es.length : Int)) (by omega)
  have b1 := hb _ b0 (Int.emod_lt_of_pos x hl)
  omega
theorem same_map {l : Nat} {rs A : List (Int × Int)} (h1 : 1 ≤ l) (hn : rs ≠ []) (up : ∀ q ∈ rs, ∃ k : Int, (q.1 + l * k, q.2 + l * k) ∈ A) (dn : ∀ p ∈ A, (∃ q ∈ rs, ∃ k : Int, p = (q.1 + l * k, q.2 + l * k)) ∨ ∀ n, ridesG l rs n ≤ p.2 - l * ((p.1 - n) / l)) : endsOf l A = endsOf l rs := by
  have val : ∀ (q : Int × Int) (k n : Int), (q.2 + l * k) - l * ((q.1 + l * k - n) / l) = q.2 - l * ((q.1 - n) / l) := fun q k n => by
    have e : q.1 + l * k - n = q.1 - n + l * k := by omega
    rw [e, Int.add_mul_ediv_left _ _ (by omega), Int.mul_add]
    omega
  have hA : A ≠ [] := by
    obtain ⟨q, hq⟩ := List.exists_mem_of_ne_nil _ hn
    obtain ⟨k, hk⟩ := up q hq
    exact List.ne_nil_of_mem hk
  rw [endsOf_eq, endsOf_eq]
  refine List.map_congr_left fun n _ => Int.le_antisymm ?_ ?_
  · obtain ⟨⟨q, hq, e⟩, _⟩ := mn_map (f := fun p : Int × Int => p.2 - l * ((p.1 - n) / l)) hn
    show mn _ ≤ mn _
    rw [e]
    obtain ⟨k, hk⟩ := up q hq
    have := (mn_map (f := fun p : Int × Int => p.2 - l * ((p.1 - n) / l)) hA).2 _ hk
    simp only [val] at this
    exact this
  · obtain ⟨⟨p, hp, e⟩, _⟩ := mn_map (f := fun p : Int × Int => p.2 - l * ((p.1 - n) / l)) hA
    show mn _ ≤ mn _
    rw [e]
    rcases dn p hp with ⟨q, hq, k, rfl⟩ | h
    · simp only [val]
      exact (mn_map (f := fun p : Int × Int => p.2 - l * ((p.1 - n) / l)) hn).2 _ hq
    · exact h n
def movedR (l : Nat) (rs : List (Int × Int)) : List (Int × Int) := (enA rs).map fun q => (q.2.1 + l * q.1, q.2.2 + l * q.1)
theorem moved_up {l : Nat} {rs : List (Int × Int)} (h : rs.length ≤ 60) : ∀ q ∈ rs, ∃ k : Int, (q.1 + l * k, q.2 + l * k) ∈ (movedR l (rs ++ rs.take 3)).take 60 := by
  intro q hq
  obtain ⟨i, hi, rfl⟩ := List.mem_iff_getElem.mp hq
  refine ⟨(i : Int), List.mem_iff_getElem?.mpr ⟨i, ?_⟩⟩
  have h1 : i < (rs ++ rs.take 3).length := by simp; omega
  rw [List.getElem?_take, if_pos (by omega)]
  unfold movedR enA
  rw [List.getElem?_map, List.getElem?_zipWith, List.getElem?_range h1, List.getElem?_append_left hi, List.getElem?_eq_getElem hi]
  rfl
theorem moved_dn {l : Nat} {rs : List (Int × Int)} : ∀ p ∈ (movedR l (rs ++ rs.take 3)).take 60, ∃ q ∈ rs, ∃ k : Int, p = (q.1 + l * k, q.2 + l * k) := by
  intro p hp
  have hp := List.mem_of_mem_take hp
  obtain ⟨q, hq, rfl⟩ := List.mem_map.mp hp
  obtain ⟨_, _, hm⟩ := mem_enA hq
  rcases List.mem_append.mp hm with hm | hm
  · exact ⟨q.2, hm, q.1, rfl⟩
  · exact ⟨q.2, List.mem_of_mem_take hm, q.1, rfl⟩
def unp : D → Int × Int
  | .tup [.int a, .int b] => (a, b)
  | _ => (0, 0)
theorem perm_p2 {ys : List D} {rs : List (Int × Int)} (h : ys.Perm (rs.map p2)) : ∃ zs : List (Int × Int), zs.Perm rs ∧ ys = zs.map p2 := by
  refine ⟨ys.map unp, ?_, ?_⟩
  · have := h.map unp
    simpa [Function.comp_def, unp, p2] using this
  · rw [List.map_map]
    conv => lhs; rw [← List.map_id ys]
    refine List.map_congr_left fun y hy => ?_
    obtain ⟨p, _, rfl⟩ := List.mem_map.mp (h.subset hy)
    rfl
section
variable {C : Ct} {sc : D} {X : XD → Prop}
theorem l3 (K : Kn C) {l : Nat} {es : List Int} {n : Int} (g : Good es) (hl : es.length = l) (hb : ∀ n : Int, 0 ≤ n → n < es.length → ledOn es n ≤ 1000) (hn1 : -(2 ^ 200) ≤ n) (hn2 : n ≤ 2 ^ 200) {s2 s4 s5 s6 s7 s8 s9 s13 s14 : Sl} {W : WD}
    (hk : W.nx [.val sc, .stt, s2, .val (.int l), s4, s5, s6, s7, s8, s9, .val (dailyD es), .val (li es), .val (.int n), s13, s14]) :
    wS C ir_l_3 [.val sc, .stt, s2, .val (.int l), s4, s5, s6, s7, s8, s9, .val (dailyD es), .val (li es), .val (.int n), s13, s14] W X := by
  have f1 := far_le g hb
  obtain ⟨B1, B2⟩ := g.back n
  have B3 := g.up (ledBack es n)
  have B4 := B2 (n - 1000) (by have := f1 (n - 1000); omega)
  have u1 := g.up n
  have u2 := f1 n
  have z2 : (2 : Nat) ≤ sizeLine := by rw [sizeLine_eq]; decide
  simp [ir_l_3, ir_l_2, wS, wE, wEs, wT, wC, wO, wIt, wipeD, frzD, Cst.d, asAll, startD, wEq_int, wEq_str, wEq_bl, wBi_len, wBi_abs, wBi_min2, wBi_max2, see_val, see_fresh, see_brw, dat_val, dat_fresh, out_val, out_fresh, out_stt, tru_non, tru_bl, tru_int, tru_lst, tru_tup, tru_fresh, tru_brw, as_vv, as_vf, as_s, as_av, as_af, as_ab, as_bf, as_bb, as_bl, lv_lst, lv_fresh, lv_brw, int_int, len_lst, len_tup, len_frl, len_fresh, len_brw, rd_val, rd_own, rd_bor, rd_stt, it_lst, it_tup, it_frl, it_fresh, it_brw, bin_add, bin_sub, bin_mul, bin_fdiv, bin_mod, bin_pow, bin_str, cat_vv, cat_vf, cat_vb, rep_v, cat_fv, cat_ff, cat_fb, rep_f, cat_bv, cat_bf, cat_bb, rep_b, cmp_eq_vv, cmp_eq_fv, cmp_eq_vf, cmp_eq_ff, cmp_eq_fb, cmp_eq_bv, cmp_eq_vb, cmp_eq_bf, cmp_eq_bb, cmp_ne_vv, cmp_ne_fv, cmp_ne_vf, cmp_ne_ff, cmp_ne_fb, cmp_ne_bv, cmp_ne_vb, cmp_ne_bf, cmp_ne_bb, cmp_lt, cmp_le, cmp_gt, cmp_ge, cmp_is_non, cmp_isn_non, cmp_is_bl, cmp_isn_bl, isNon_non, isNon_int, isNon_str, isNon_lst, isNon_tup, isNon_frl, isNon_obj, isNon_bl, ix_tup, ix_v, ix_f, ix_b, tg_nm, tg_t2, tg_t3, asg_nm, asg_t2, asg_t3, nm_val, nm_fresh, nm_stt, sl_val, sl_brw, sl_stt, ty_int, ty_tt, ty_tv, ty_lv, ty_tf, ty_lf, ty_tb, ty_lb, ty_lt, slc_tup, slc_v, slc_f, slc_b, slc_str, ti, li, p2, it_sq, len_sq, rng_1, rng_2, it_sqR, len_sqR, rd_sqR, as_sqR, K.is.1, K.en.1, K.be.1, K.go.1, K.back.1, dailyD, end_ne, begin_ne]
  refine d_end g.small ?_
  simp [wS, wE, wEs, wT, wC, wO, wIt, wipeD, frzD, Cst.d, asAll, startD, wEq_int, wEq_str, wEq_bl, wBi_len, wBi_abs, wBi_min2, wBi_max2, see_val, see_fresh, see_brw, dat_val, dat_fresh, out_val, out_fresh, out_stt, tru_non, tru_bl, tru_int, tru_lst, tru_tup, tru_fresh, tru_brw, as_vv, as_vf, as_s, as_av, as_af, as_ab, as_bf, as_bb, as_bl, lv_lst, lv_fresh, lv_brw, int_int, len_lst, len_tup, len_frl, len_fresh, len_brw, rd_val, rd_own, rd_bor, rd_stt, it_lst, it_tup, it_frl, it_fresh, it_brw, bin_add, bin_sub, bin_mul, bin_fdiv, bin_mod, bin_pow, bin_str, cat_vv, cat_vf, cat_vb, rep_v, cat_fv, cat_ff, cat_fb, rep_f, cat_bv, cat_bf, cat_bb, rep_b, cmp_eq_vv, cmp_eq_fv, cmp_eq_vf, cmp_eq_ff, cmp_eq_fb, cmp_eq_bv, cmp_eq_vb, cmp_eq_bf, cmp_eq_bb, cmp_ne_vv, cmp_ne_fv, cmp_ne_vf, cmp_ne_ff, cmp_ne_fb, cmp_ne_bv, cmp_ne_vb, cmp_ne_bf, cmp_ne_bb, cmp_lt, cmp_le, cmp_gt, cmp_ge, cmp_is_non, cmp_isn_non, cmp_is_bl, cmp_isn_bl, isNon_non, isNon_int, isNon_str, isNon_lst, isNon_tup, isNon_frl, isNon_obj, isNon_bl, ix_tup, ix_v, ix_f, ix_b, tg_nm, tg_t2, tg_t3, asg_nm, asg_t2, asg_t3, nm_val, nm_fresh, nm_stt, sl_val, sl_brw, sl_stt, ty_int, ty_tt, ty_tv, ty_lv, ty_tf, ty_lf, ty_tb, ty_lb, ty_lt, slc_tup, slc_v, slc_f, slc_b, slc_str, ti, li, p2, it_sq, len_sq, rng_1, rng_2, it_sqR, len_sqR, rd_sqR, as_sqR]
  refine d_begin g.small ?_
  simp [wS, wE, wEs, wT, wC, wO, wIt, wipeD, frzD, Cst.d, asAll, startD, wEq_int, wEq_str, wEq_bl, wBi_len, wBi_abs, wBi_min2, wBi_max2, see_val, see_fresh, see_brw, dat_val, dat_fresh, out_val, out_fresh, out_stt, tru_non, tru_bl, tru_int, tru_lst, tru_tup, tru_fresh, tru_brw, as_vv, as_vf, as_s, as_av, as_af, as_ab, as_bf, as_bb, as_bl, lv_lst, lv_fresh, lv_brw, int_int, len_lst, len_tup, len_frl, len_fresh, len_brw, rd_val, rd_own, rd_bor, rd_stt, it_lst, it_tup, it_frl, it_fresh, it_brw, bin_add, bin_sub, bin_mul, bin_fdiv, bin_mod, bin_pow, bin_str, cat_vv, cat_vf, cat_vb, rep_v, cat_fv, cat_ff, cat_fb, rep_f, cat_bv, cat_bf, cat_bb, rep_b, cmp_eq_vv, cmp_eq_fv, cmp_eq_vf, cmp_eq_ff, cmp_eq_fb, cmp_eq_bv, cmp_eq_vb, cmp_eq_bf, cmp_eq_bb, cmp_ne_vv, cmp_ne_fv, cmp_ne_vf, cmp_ne_ff, cmp_ne_fb, cmp_ne_bv, cmp_ne_vb, cmp_ne_bf, cmp_ne_bb, cmp_lt, cmp_le, cmp_gt, cmp_ge, cmp_is_non, cmp_isn_non, cmp_is_bl, cmp_isn_bl, isNon_non, isNon_int, isNon_str, isNon_lst, isNon_tup, isNon_frl, isNon_obj, isNon_bl, ix_tup, ix_v, ix_f, ix_b, tg_nm, tg_t2, tg_t3, asg_nm, asg_t2, asg_t3, nm_val, nm_fresh, nm_stt, sl_val, sl_brw, sl_stt, ty_int, ty_tt, ty_tv, ty_lv, ty_tf, ty_lf, ty_tb, ty_lb, ty_lt, slc_tup, slc_v, slc_f, slc_b, slc_str, ti, li, p2, it_sq, len_sq, rng_1, rng_2, it_sqR, len_sqR, rd_sqR, as_sqR, z2]
  refine wcall_of (α := Bool × List Int × Int) (false, es, n) rfl g.small ?_
  rintro r rfl
  simp [wS, wE, wEs, wT, wC, wO, wIt, wipeD, frzD, Cst.d, asAll, startD, wEq_int, wEq_str, wEq_bl, wBi_len, wBi_abs, wBi_min2, wBi_max2, see_val, see_fresh, see_brw, dat_val, dat_fresh, out_val, out_fresh, out_stt, tru_non, tru_bl, tru_int, tru_lst, tru_tup, tru_fresh, tru_brw, as_vv, as_vf, as_s, as_av, as_af, as_ab, as_bf, as_bb, as_bl, lv_lst, lv_fresh, lv_brw, int_int, len_lst, len_tup, len_frl, len_fresh, len_brw, rd_val, rd_own, rd_bor, rd_stt, it_lst, it_tup, it_frl, it_fresh, it_brw, bin_add, bin_sub, bin_mul, bin_fdiv, bin_mod, bin_pow, bin_str, cat_vv, cat_vf, cat_vb, rep_v, cat_fv, cat_ff, cat_fb, rep_f, cat_bv, cat_bf, cat_bb, rep_b, cmp_eq_vv, cmp_eq_fv, cmp_eq_vf, cmp_eq_ff, cmp_eq_fb, cmp_eq_bv, cmp_eq_vb, cmp_eq_bf, cmp_eq_bb, cmp_ne_vv, cmp_ne_fv, cmp_ne_vf, cmp_ne_ff, cmp_ne_fb, cmp_ne_bv, cmp_ne_vb, cmp_ne_bf, cmp_ne_bb, cmp_lt, cmp_le, cmp_gt, cmp_ge, cmp_is_non, cmp_isn_non, cmp_is_bl, cmp_isn_bl, isNon_non, isNon_int, isNon_str, isNon_lst, isNon_tup, isNon_frl, isNon_obj, isNon_bl, ix_tup, ix_v, ix_f, ix_b, tg_nm, tg_t2, tg_t3, asg_nm, asg_t2, asg_t3, nm_val, nm_fresh, nm_stt, sl_val, sl_brw, sl_stt, ty_int, ty_tt, ty_tv, ty_lv, ty_tf, ty_lf, ty_tb, ty_lb, ty_lt, slc_tup, slc_v, slc_f, slc_b, slc_str, ti, li, p2, it_sq, len_sq, rng_1, rng_2, it_sqR, len_sqR, rd_sqR, as_sqR]
  refine wcall_of (α := Bool × List Int × Int) (false, es, n) rfl ⟨g, fun n h1 h2 => Int.le_trans (hb n h1 h2) (by decide)⟩ ?_
  rintro r rfl
  simp only [lawGo_eq]
  simp [wS, wE, wEs, wT, wC, wO, wIt, wipeD, frzD, Cst.d, asAll, startD, wEq_int, wEq_str, wEq_bl, wBi_len, wBi_abs, wBi_min2, wBi_max2, see_val, see_fresh, see_brw, dat_val, dat_fresh, out_val, out_fresh, out_stt, tru_non, tru_bl, tru_int, tru_lst, tru_tup, tru_fresh, tru_brw, as_vv, as_vf, as_s, as_av, as_af, as_ab, as_bf, as_bb, as_bl, lv_lst, lv_fresh, lv_brw, int_int, len_lst, len_tup, len_frl, len_fresh, len_brw, rd_val, rd_own, rd_bor, rd_stt, it_lst, it_tup, it_frl, it_fresh, it_brw, bin_add, bin_sub, bin_mul, bin_fdiv, bin_mod, bin_pow, bin_str, cat_vv, cat_vf, cat_vb, rep_v, cat_fv, cat_ff, cat_fb, rep_f, cat_bv, cat_bf, cat_bb, rep_b, cmp_eq_vv, cmp_eq_fv, cmp_eq_vf, cmp_eq_ff, cmp_eq_fb, cmp_eq_bv, cmp_eq_vb, cmp_eq_bf, cmp_eq_bb, cmp_ne_vv, cmp_ne_fv, cmp_ne_vf, cmp_ne_ff, cmp_ne_fb, cmp_ne_bv, cmp_ne_vb, cmp_ne_bf, cmp_ne_bb, cmp_lt, cmp_le, cmp_gt, cmp_ge, cmp_is_non, cmp_isn_non, cmp_is_bl, cmp_isn_bl, isNon_non, isNon_int, isNon_str, isNon_lst, isNon_tup, isNon_frl, isNon_obj, isNon_bl, ix_tup, ix_v, ix_f, ix_b, tg_nm, tg_t2, tg_t3, asg_nm, asg_t2, asg_t3, nm_val, nm_fresh, nm_stt, sl_val, sl_brw, sl_stt, ty_int, ty_tt, ty_tv, ty_lv, ty_tf, ty_lf, ty_tb, ty_lb, ty_lt, slc_tup, slc_v, slc_f, slc_b, slc_str, ti, li, p2, it_sq, len_sq, rng_1, rng_2, it_sqR, len_sqR, rd_sqR, as_sqR, z2]
  refine is_fine rfl (Fine.two (n := 0) (b := 0) (Fine.int (big (by omega) (by omega))) (Fine.int (big (by omega) (by omega)))) (by omega) (by omega) ?_
  simpa [wS, wE, wEs, wT, wC, wO, wIt, wipeD, frzD, Cst.d, asAll, startD, wEq_int, wEq_str, wEq_bl, wBi_len, wBi_abs, wBi_min2, wBi_max2, see_val, see_fresh, see_brw, dat_val, dat_fresh, out_val, out_fresh, out_stt, tru_non, tru_bl, tru_int, tru_lst, tru_tup, tru_fresh, tru_brw, as_vv, as_vf, as_s, as_av, as_af, as_ab, as_bf, as_bb, as_bl, lv_lst, lv_fresh, lv_brw, int_int, len_lst, len_tup, len_frl, len_fresh, len_brw, rd_val, rd_own, rd_bor, rd_stt, it_lst, it_tup, it_frl, it_fresh, it_brw, bin_add, bin_sub, bin_mul, bin_fdiv, bin_mod, bin_pow, bin_str, cat_vv, cat_vf, cat_vb, rep_v, cat_fv, cat_ff, cat_fb, rep_f, cat_bv, cat_bf, cat_bb, rep_b, cmp_eq_vv, cmp_eq_fv, cmp_eq_vf, cmp_eq_ff, cmp_eq_fb, cmp_eq_bv, cmp_eq_vb, cmp_eq_bf, cmp_eq_bb, cmp_ne_vv, cmp_ne_fv, cmp_ne_vf, cmp_ne_ff, cmp_ne_fb, cmp_ne_bv, cmp_ne_vb, cmp_ne_bf, cmp_ne_bb, cmp_lt, cmp_le, cmp_gt, cmp_ge, cmp_is_non, cmp_isn_non, cmp_is_bl, cmp_isn_bl, isNon_non, isNon_int, isNon_str, isNon_lst, isNon_tup, isNon_frl, isNon_obj, isNon_bl, ix_tup, ix_v, ix_f, ix_b, tg_nm, tg_t2, tg_t3, asg_nm, asg_t2, asg_t3, nm_val, nm_fresh, nm_stt, sl_val, sl_brw, sl_stt, ty_int, ty_tt, ty_tv, ty_lv, ty_tf, ty_lf, ty_tb, ty_lb, ty_lt, slc_tup, slc_v, slc_f, slc_b, slc_str, ti, li, p2, it_sq, len_sq, rng_1, rng_2, it_sqR, len_sqR, rd_sqR, as_sqR, dailyD] using hk
theorem l4 (K : Kn C) {l : Nat} {es : List Int} (g : Good es) (hl : es.length = l) (hb : ∀ n : Int, 0 ≤ n → n < es.length → ledOn es n ≤ 1000) {s2 s4 s5 s6 s7 s8 s9 s12 s13 s14 : Sl} {W : WD}
    (hk : ∀ s12, W.nx [.val sc, .stt, s2, .val (.int l), s4, s5, s6, s7, s8, s9, .val (dailyD es), .val (li es), s12, s13, s14]) :
    wS C ir_l_4 [.val sc, .stt, s2, .val (.int l), s4, s5, s6, s7, s8, s9, .val (dailyD es), .val (li es), s12, s13, s14] W X := by
  have l1 := g.lo
  have l2 := g.hi
  simp [ir_l_4, wS, wE, wEs, wT, wC, wO, wIt, wipeD, frzD, Cst.d, asAll, startD, wEq_int, wEq_str, wEq_bl, wBi_len, wBi_abs, wBi_min2, wBi_max2, see_val, see_fresh, see_brw, dat_val, dat_fresh, out_val, out_fresh, out_stt, tru_non, tru_bl, tru_int, tru_lst, tru_tup, tru_fresh, tru_brw, as_vv, as_vf, as_s, as_av, as_af, as_ab, as_bf, as_bb, as_bl, lv_lst, lv_fresh, lv_brw, int_int, len_lst, len_tup, len_frl, len_fresh, len_brw, rd_val, rd_own, rd_bor, rd_stt, it_lst, it_tup, it_frl, it_fresh, it_brw, bin_add, bin_sub, bin_mul, bin_fdiv, bin_mod, bin_pow, bin_str, cat_vv, cat_vf, cat_vb, rep_v, cat_fv, cat_ff, cat_fb, rep_f, cat_bv, cat_bf, cat_bb, rep_b, cmp_eq_vv, cmp_eq_fv, cmp_eq_vf, cmp_eq_ff, cmp_eq_fb, cmp_eq_bv, cmp_eq_vb, cmp_eq_bf, cmp_eq_bb, cmp_ne_vv, cmp_ne_fv, cmp_ne_vf, cmp_ne_ff, cmp_ne_fb, cmp_ne_bv, cmp_ne_vb, cmp_ne_bf, cmp_ne_bb, cmp_lt, cmp_le, cmp_gt, cmp_ge, cmp_is_non, cmp_isn_non, cmp_is_bl, cmp_isn_bl, isNon_non, isNon_int, isNon_str, isNon_lst, isNon_tup, isNon_frl, isNon_obj, isNon_bl, ix_tup, ix_v, ix_f, ix_b, tg_nm, tg_t2, tg_t3, asg_nm, asg_t2, asg_t3, nm_val, nm_fresh, nm_stt, sl_val, sl_brw, sl_stt, ty_int, ty_tt, ty_tv, ty_lv, ty_tf, ty_lf, ty_tb, ty_lb, ty_lt, slc_tup, slc_v, slc_f, slc_b, slc_str, ti, li, p2, it_sq, len_sq, rng_1, rng_2, it_sqR, len_sqR, rd_sqR, as_sqR, K.pick.1, K.draw.1, CPow]
  refine draw_call (by omega) (by omega) fun a a1 a2 => ?_
  simp [wS, wE, wEs, wT, wC, wO, wIt, wipeD, frzD, Cst.d, asAll, startD, wEq_int, wEq_str, wEq_bl, wBi_len, wBi_abs, wBi_min2, wBi_max2, see_val, see_fresh, see_brw, dat_val, dat_fresh, out_val, out_fresh, out_stt, tru_non, tru_bl, tru_int, tru_lst, tru_tup, tru_fresh, tru_brw, as_vv, as_vf, as_s, as_av, as_af, as_ab, as_bf, as_bb, as_bl, lv_lst, lv_fresh, lv_brw, int_int, len_lst, len_tup, len_frl, len_fresh, len_brw, rd_val, rd_own, rd_bor, rd_stt, it_lst, it_tup, it_frl, it_fresh, it_brw, bin_add, bin_sub, bin_mul, bin_fdiv, bin_mod, bin_pow, bin_str, cat_vv, cat_vf, cat_vb, rep_v, cat_fv, cat_ff, cat_fb, rep_f, cat_bv, cat_bf, cat_bb, rep_b, cmp_eq_vv, cmp_eq_fv, cmp_eq_vf, cmp_eq_ff, cmp_eq_fb, cmp_eq_bv, cmp_eq_vb, cmp_eq_bf, cmp_eq_bb, cmp_ne_vv, cmp_ne_fv, cmp_ne_vf, cmp_ne_ff, cmp_ne_fb, cmp_ne_bv, cmp_ne_vb, cmp_ne_bf, cmp_ne_bb, cmp_lt, cmp_le, cmp_gt, cmp_ge, cmp_is_non, cmp_isn_non, cmp_is_bl, cmp_isn_bl, isNon_non, isNon_int, isNon_str, isNon_lst, isNon_tup, isNon_frl, isNon_obj, isNon_bl, ix_tup, ix_v, ix_f, ix_b, tg_nm, tg_t2, tg_t3, asg_nm, asg_t2, asg_t3, nm_val, nm_fresh, nm_stt, sl_val, sl_brw, sl_stt, ty_int, ty_tt, ty_tv, ty_lv, ty_tf, ty_lf, ty_tb, ty_lb, ty_lt, slc_tup, slc_v, slc_f, slc_b, slc_str, ti, li, p2, it_sq, len_sq, rng_1, rng_2, it_sqR, len_sqR, rd_sqR, as_sqR]
  refine ⟨.inl ⟨by omega, by omega⟩, ?_⟩
  refine draw_call (by omega) (by omega) fun b b1 b2 => ?_
  simp [wS, wE, wEs, wT, wC, wO, wIt, wipeD, frzD, Cst.d, asAll, startD, wEq_int, wEq_str, wEq_bl, wBi_len, wBi_abs, wBi_min2, wBi_max2, see_val, see_fresh, see_brw, dat_val, dat_fresh, out_val, out_fresh, out_stt, tru_non, tru_bl, tru_int, tru_lst, tru_tup, tru_fresh, tru_brw, as_vv, as_vf, as_s, as_av, as_af, as_ab, as_bf, as_bb, as_bl, lv_lst, lv_fresh, lv_brw, int_int, len_lst, len_tup, len_frl, len_fresh, len_brw, rd_val, rd_own, rd_bor, rd_stt, it_lst, it_tup, it_frl, it_fresh, it_brw, bin_add, bin_sub, bin_mul, bin_fdiv, bin_mod, bin_pow, bin_str, cat_vv, cat_vf, cat_vb, rep_v, cat_fv, cat_ff, cat_fb, rep_f, cat_bv, cat_bf, cat_bb, rep_b, cmp_eq_vv, cmp_eq_fv, cmp_eq_vf, cmp_eq_ff, cmp_eq_fb, cmp_eq_bv, cmp_eq_vb, cmp_eq_bf, cmp_eq_bb, cmp_ne_vv, cmp_ne_fv, cmp_ne_vf, cmp_ne_ff, cmp_ne_fb, cmp_ne_bv, cmp_ne_vb, cmp_ne_bf, cmp_ne_bb, cmp_lt, cmp_le, cmp_gt, cmp_ge, cmp_is_non, cmp_isn_non, cmp_is_bl, cmp_isn_bl, isNon_non, isNon_int, isNon_str, isNon_lst, isNon_tup, isNon_frl, isNon_obj, isNon_bl, ix_tup, ix_v, ix_f, ix_b, tg_nm, tg_t2, tg_t3, asg_nm, asg_t2, asg_t3, nm_val, nm_fresh, nm_stt, sl_val, sl_brw, sl_stt, ty_int, ty_tt, ty_tv, ty_lv, ty_tf, ty_lf, ty_tb, ty_lb, ty_lt, slc_tup, slc_v, slc_f, slc_b, slc_str, ti, li, p2, it_sq, len_sq, rng_1, rng_2, it_sqR, len_sqR, rd_sqR, as_sqR]
  refine ⟨.inl ⟨by omega, by omega⟩, ?_⟩
  refine draw_call (by omega) (by omega) fun c c1 c2 => ?_
  simp [wS, wE, wEs, wT, wC, wO, wIt, wipeD, frzD, Cst.d, asAll, startD, wEq_int, wEq_str, wEq_bl, wBi_len, wBi_abs, wBi_min2, wBi_max2, see_val, see_fresh, see_brw, dat_val, dat_fresh, out_val, out_fresh, out_stt, tru_non, tru_bl, tru_int, tru_lst, tru_tup, tru_fresh, tru_brw, as_vv, as_vf, as_s, as_av, as_af, as_ab, as_bf, as_bb, as_bl, lv_lst, lv_fresh, lv_brw, int_int, len_lst, len_tup, len_frl, len_fresh, len_brw, rd_val, rd_own, rd_bor, rd_stt, it_lst, it_tup, it_frl, it_fresh, it_brw, bin_add, bin_sub, bin_mul, bin_fdiv, bin_mod, bin_pow, bin_str, cat_vv, cat_vf, cat_vb, rep_v, cat_fv, cat_ff, cat_fb, rep_f, cat_bv, cat_bf, cat_bb, rep_b, cmp_eq_vv, cmp_eq_fv, cmp_eq_vf, cmp_eq_ff, cmp_eq_fb, cmp_eq_bv, cmp_eq_vb, cmp_eq_bf, cmp_eq_bb, cmp_ne_vv, cmp_ne_fv, cmp_ne_vf, cmp_ne_ff, cmp_ne_fb, cmp_ne_bv, cmp_ne_vb, cmp_ne_bf, cmp_ne_bb, cmp_lt, cmp_le, cmp_gt, cmp_ge, cmp_is_non, cmp_isn_non, cmp_is_bl, cmp_isn_bl, isNon_non, isNon_int, isNon_str, isNon_lst, isNon_tup, isNon_frl, isNon_obj, isNon_bl, ix_tup, ix_v, ix_f, ix_b, tg_nm, tg_t2, tg_t3, asg_nm, asg_t2, asg_t3, nm_val, nm_fresh, nm_stt, sl_val, sl_brw, sl_stt, ty_int, ty_tt, ty_tv, ty_lv, ty_tf, ty_lf, ty_tb, ty_lb, ty_lt, slc_tup, slc_v, slc_f, slc_b, slc_str, ti, li, p2, it_sq, len_sq, rng_1, rng_2, it_sqR, len_sqR, rd_sqR, as_sqR]
  refine ⟨by rw [sizeLine_eq]; decide, ?_⟩
  refine pick_call (xs := [.int a, .int (b - 3 * l), .int (1000000000000000000000000000000 + c), .int (-100000000000000000000)]) (by simp) (by simp) fun x hx => ?_
  have hx2 : ∃ n : Int, x = .int n ∧ -(2 ^ 200) ≤ n ∧ n ≤ 2 ^ 200 := by
    simp only [List.mem_cons, List.not_mem_nil, or_false] at hx
    rcases hx with rfl | rfl | rfl | rfl
    · exact ⟨_, rfl, by omega, by omega⟩
    · exact ⟨_, rfl, by omega, by omega⟩
    · exact ⟨_, rfl, by omega, by omega⟩
    · exact ⟨_, rfl, by omega, by omega⟩
  obtain ⟨n, rfl, n1, n2⟩ := hx2
  simp [wS, wE, wEs, wT, wC, wO, wIt, wipeD, frzD, Cst.d, asAll, startD, wEq_int, wEq_str, wEq_bl, wBi_len, wBi_abs, wBi_min2, wBi_max2, see_val, see_fresh, see_brw, dat_val, dat_fresh, out_val, out_fresh, out_stt, tru_non, tru_bl, tru_int, tru_lst, tru_tup, tru_fresh, tru_brw, as_vv, as_vf, as_s, as_av, as_af, as_ab, as_bf, as_bb, as_bl, lv_lst, lv_fresh, lv_brw, int_int, len_lst, len_tup, len_frl, len_fresh, len_brw, rd_val, rd_own, rd_bor, rd_stt, it_lst, it_tup, it_frl, it_fresh, it_brw, bin_add, bin_sub, bin_mul, bin_fdiv, bin_mod, bin_pow, bin_str, cat_vv, cat_vf, cat_vb, rep_v, cat_fv, cat_ff, cat_fb, rep_f, cat_bv, cat_bf, cat_bb, rep_b, cmp_eq_vv, cmp_eq_fv, cmp_eq_vf, cmp_eq_ff, cmp_eq_fb, cmp_eq_bv, cmp_eq_vb, cmp_eq_bf, cmp_eq_bb, cmp_ne_vv, cmp_ne_fv, cmp_ne_vf, cmp_ne_ff, cmp_ne_fb, cmp_ne_bv, cmp_ne_vb, cmp_ne_bf, cmp_ne_bb, cmp_lt, cmp_le, cmp_gt, cmp_ge, cmp_is_non, cmp_isn_non, cmp_is_bl, cmp_isn_bl, isNon_non, isNon_int, isNon_str, isNon_lst, isNon_tup, isNon_frl, isNon_obj, isNon_bl, ix_tup, ix_v, ix_f, ix_b, tg_nm, tg_t2, tg_t3, asg_nm, asg_t2, asg_t3, nm_val, nm_fresh, nm_stt, sl_val, sl_brw, sl_stt, ty_int, ty_tt, ty_tv, ty_lv, ty_tf, ty_lf, ty_tb, ty_lb, ty_lt, slc_tup, slc_v, slc_f, slc_b, slc_str, ti, li, p2, it_sq, len_sq, rng_1, rng_2, it_sqR, len_sqR, rd_sqR, as_sqR]
  have := l3 (sc := sc) (X := X) K g hl hb n1 n2 (s2 := s2) (s4 := s4) (s5 := s5) (s6 := s6) (s7 := s7) (s8 := s8) (s9 := s9) (s13 := s13) (s14 := s14) (W := W) (hk _)
  simpa [wS, wE, wEs, wT, wC, wO, wIt, wipeD, frzD, Cst.d, asAll, startD, wEq_int, wEq_str, wEq_bl, wBi_len, wBi_abs, wBi_min2, wBi_max2, see_val, see_fresh, see_brw, dat_val, dat_fresh, out_val, out_fresh, out_stt, tru_non, tru_bl, tru_int, tru_lst, tru_tup, tru_fresh, tru_brw, as_vv, as_vf, as_s, as_av, as_af, as_ab, as_bf, as_bb, as_bl, lv_lst, lv_fresh, lv_brw, int_int, len_lst, len_tup, len_frl, len_fresh, len_brw, rd_val, rd_own, rd_bor, rd_stt, it_lst, it_tup, it_frl, it_fresh, it_brw, bin_add, bin_sub, bin_mul, bin_fdiv, bin_mod, bin_pow, bin_str, cat_vv, cat_vf, cat_vb, rep_v, cat_fv, cat_ff, cat_fb, rep_f, cat_bv, cat_bf, cat_bb, rep_b, cmp_eq_vv, cmp_eq_fv, cmp_eq_vf, cmp_eq_ff, cmp_eq_fb, cmp_eq_bv, cmp_eq_vb, cmp_eq_bf, cmp_eq_bb, cmp_ne_vv, cmp_ne_fv, cmp_ne_vf, cmp_ne_ff, cmp_ne_fb, cmp_ne_bv, cmp_ne_vb, cmp_ne_bf, cmp_ne_bb, cmp_lt, cmp_le, cmp_gt, cmp_ge, cmp_is_non, cmp_isn_non, cmp_is_bl, cmp_isn_bl, isNon_non, isNon_int, isNon_str, isNon_lst, isNon_tup, isNon_frl, isNon_obj, isNon_bl, ix_tup, ix_v, ix_f, ix_b, tg_nm, tg_t2, tg_t3, asg_nm, asg_t2, asg_t3, nm_val, nm_fresh, nm_stt, sl_val, sl_brw, sl_stt, ty_int, ty_tt, ty_tv, ty_lv, ty_tf, ty_lf, ty_tb, ty_lb, ty_lt, slc_tup, slc_v, slc_f, slc_b, slc_str, ti, li, p2, it_sq, len_sq, rng_1, rng_2, it_sqR, len_sqR, rd_sqR, as_sqR] using this
theorem l7 (K : Kn C) {l : Nat} {es : List Int} (g : Good es) (hl : es.length = l) {s2 s4 s5 s6 s7 s8 s9 s11 s12 s13 s14 : Sl} {W : WD}
    (hk : W.nx [.val sc, .stt, s2, .val (.int l), s4, s5, s6, s7, s8, s9, .val (dailyD es), s11, s12, s13, s14]) :
    wS C ir_l_7 [.val sc, .stt, s2, .val (.int l), s4, s5, s6, s7, s8, s9, .val (dailyD es), s11, s12, s13, s14] W X := by
  have l1 := g.lo
  have l2 := g.hi
  have z2 : (2 : Nat) ≤ sizeLine := by rw [sizeLine_eq]; decide
  simp [ir_l_7, ir_l_6, wS, wE, wEs, wT, wC, wO, wIt, wipeD, frzD, Cst.d, asAll, startD, wEq_int, wEq_str, wEq_bl, wBi_len, wBi_abs, wBi_min2, wBi_max2, see_val, see_fresh, see_brw, dat_val, dat_fresh, out_val, out_fresh, out_stt, tru_non, tru_bl, tru_int, tru_lst, tru_tup, tru_fresh, tru_brw, as_vv, as_vf, as_s, as_av, as_af, as_ab, as_bf, as_bb, as_bl, lv_lst, lv_fresh, lv_brw, int_int, len_lst, len_tup, len_frl, len_fresh, len_brw, rd_val, rd_own, rd_bor, rd_stt, it_lst, it_tup, it_frl, it_fresh, it_brw, bin_add, bin_sub, bin_mul, bin_fdiv, bin_mod, bin_pow, bin_str, cat_vv, cat_vf, cat_vb, rep_v, cat_fv, cat_ff, cat_fb, rep_f, cat_bv, cat_bf, cat_bb, rep_b, cmp_eq_vv, cmp_eq_fv, cmp_eq_vf, cmp_eq_ff, cmp_eq_fb, cmp_eq_bv, cmp_eq_vb, cmp_eq_bf, cmp_eq_bb, cmp_ne_vv, cmp_ne_fv, cmp_ne_vf, cmp_ne_ff, cmp_ne_fb, cmp_ne_bv, cmp_ne_vb, cmp_ne_bf, cmp_ne_bb, cmp_lt, cmp_le, cmp_gt, cmp_ge, cmp_is_non, cmp_isn_non, cmp_is_bl, cmp_isn_bl, isNon_non, isNon_int, isNon_str, isNon_lst, isNon_tup, isNon_frl, isNon_obj, isNon_bl, ix_tup, ix_v, ix_f, ix_b, tg_nm, tg_t2, tg_t3, asg_nm, asg_t2, asg_t3, nm_val, nm_fresh, nm_stt, sl_val, sl_brw, sl_stt, ty_int, ty_tt, ty_tv, ty_lv, ty_tf, ty_lf, ty_tb, ty_lb, ty_lt, slc_tup, slc_v, slc_f, slc_b, slc_str, ti, li, p2, it_sq, len_sq, rng_1, rng_2, it_sqR, len_sqR, rd_sqR, as_sqR, K.day.1, (show C.pr "Daily" "rides" = some fsDRides from K.ri), dailyD]
  refine d_rides g.small ?_
  simp [wS, wE, wEs, wT, wC, wO, wIt, wipeD, frzD, Cst.d, asAll, startD, wEq_int, wEq_str, wEq_bl, wBi_len, wBi_abs, wBi_min2, wBi_max2, see_val, see_fresh, see_brw, dat_val, dat_fresh, out_val, out_fresh, out_stt, tru_non, tru_bl, tru_int, tru_lst, tru_tup, tru_fresh, tru_brw, as_vv, as_vf, as_s, as_av, as_af, as_ab, as_bf, as_bb, as_bl, lv_lst, lv_fresh, lv_brw, int_int, len_lst, len_tup, len_frl, len_fresh, len_brw, rd_val, rd_own, rd_bor, rd_stt, it_lst, it_tup, it_frl, it_fresh, it_brw, bin_add, bin_sub, bin_mul, bin_fdiv, bin_mod, bin_pow, bin_str, cat_vv, cat_vf, cat_vb, rep_v, cat_fv, cat_ff, cat_fb, rep_f, cat_bv, cat_bf, cat_bb, rep_b, cmp_eq_vv, cmp_eq_fv, cmp_eq_vf, cmp_eq_ff, cmp_eq_fb, cmp_eq_bv, cmp_eq_vb, cmp_eq_bf, cmp_eq_bb, cmp_ne_vv, cmp_ne_fv, cmp_ne_vf, cmp_ne_ff, cmp_ne_fb, cmp_ne_bv, cmp_ne_vb, cmp_ne_bf, cmp_ne_bb, cmp_lt, cmp_le, cmp_gt, cmp_ge, cmp_is_non, cmp_isn_non, cmp_is_bl, cmp_isn_bl, isNon_non, isNon_int, isNon_str, isNon_lst, isNon_tup, isNon_frl, isNon_obj, isNon_bl, ix_tup, ix_v, ix_f, ix_b, tg_nm, tg_t2, tg_t3, asg_nm, asg_t2, asg_t3, nm_val, nm_fresh, nm_stt, sl_val, sl_brw, sl_stt, ty_int, ty_tt, ty_tv, ty_lv, ty_tf, ty_lf, ty_tb, ty_lb, ty_lt, slc_tup, slc_v, slc_f, slc_b, slc_str, ti, li, p2, it_sq, len_sq, rng_1, rng_2, it_sqR, len_sqR, rd_sqR, as_sqR]
  refine day_call (k := .t) rfl (by omega) (by omega) g.needed_ne (Nat.le_trans (needed_len g.lo) g.hi) g.needed_up ?_
  have e := g.needed_again
  rw [hl] at e
  rw [e]
  refine ne_d K.own K.eq ?_
  simp [wS, wE, wEs, wT, wC, wO, wIt, wipeD, frzD, Cst.d, asAll, startD, wEq_int, wEq_str, wEq_bl, wBi_len, wBi_abs, wBi_min2, wBi_max2, see_val, see_fresh, see_brw, dat_val, dat_fresh, out_val, out_fresh, out_stt, tru_non, tru_bl, tru_int, tru_lst, tru_tup, tru_fresh, tru_brw, as_vv, as_vf, as_s, as_av, as_af, as_ab, as_bf, as_bb, as_bl, lv_lst, lv_fresh, lv_brw, int_int, len_lst, len_tup, len_frl, len_fresh, len_brw, rd_val, rd_own, rd_bor, rd_stt, it_lst, it_tup, it_frl, it_fresh, it_brw, bin_add, bin_sub, bin_mul, bin_fdiv, bin_mod, bin_pow, bin_str, cat_vv, cat_vf, cat_vb, rep_v, cat_fv, cat_ff, cat_fb, rep_f, cat_bv, cat_bf, cat_bb, rep_b, cmp_eq_vv, cmp_eq_fv, cmp_eq_vf, cmp_eq_ff, cmp_eq_fb, cmp_eq_bv, cmp_eq_vb, cmp_eq_bf, cmp_eq_bb, cmp_ne_vv, cmp_ne_fv, cmp_ne_vf, cmp_ne_ff, cmp_ne_fb, cmp_ne_bv, cmp_ne_vb, cmp_ne_bf, cmp_ne_bb, cmp_lt, cmp_le, cmp_gt, cmp_ge, cmp_is_non, cmp_isn_non, cmp_is_bl, cmp_isn_bl, isNon_non, isNon_int, isNon_str, isNon_lst, isNon_tup, isNon_frl, isNon_obj, isNon_bl, ix_tup, ix_v, ix_f, ix_b, tg_nm, tg_t2, tg_t3, asg_nm, asg_t2, asg_t3, nm_val, nm_fresh, nm_stt, sl_val, sl_brw, sl_stt, ty_int, ty_tt, ty_tv, ty_lv, ty_tf, ty_lf, ty_tb, ty_lb, ty_lt, slc_tup, slc_v, slc_f, slc_b, slc_str, ti, li, p2, it_sq, len_sq, rng_1, rng_2, it_sqR, len_sqR, rd_sqR, as_sqR, dailyD]
  refine d_rides g.small ?_
  simp [wS, wE, wEs, wT, wC, wO, wIt, wipeD, frzD, Cst.d, asAll, startD, wEq_int, wEq_str, wEq_bl, wBi_len, wBi_abs, wBi_min2, wBi_max2, see_val, see_fresh, see_brw, dat_val, dat_fresh, out_val, out_fresh, out_stt, tru_non, tru_bl, tru_int, tru_lst, tru_tup, tru_fresh, tru_brw, as_vv, as_vf, as_s, as_av, as_af, as_ab, as_bf, as_bb, as_bl, lv_lst, lv_fresh, lv_brw, int_int, len_lst, len_tup, len_frl, len_fresh, len_brw, rd_val, rd_own, rd_bor, rd_stt, it_lst, it_tup, it_frl, it_fresh, it_brw, bin_add, bin_sub, bin_mul, bin_fdiv, bin_mod, bin_pow, bin_str, cat_vv, cat_vf, cat_vb, rep_v, cat_fv, cat_ff, cat_fb, rep_f, cat_bv, cat_bf, cat_bb, rep_b, cmp_eq_vv, cmp_eq_fv, cmp_eq_vf, cmp_eq_ff, cmp_eq_fb, cmp_eq_bv, cmp_eq_vb, cmp_eq_bf, cmp_eq_bb, cmp_ne_vv, cmp_ne_fv, cmp_ne_vf, cmp_ne_ff, cmp_ne_fb, cmp_ne_bv, cmp_ne_vb, cmp_ne_bf, cmp_ne_bb, cmp_lt, cmp_le, cmp_gt, cmp_ge, cmp_is_non, cmp_isn_non, cmp_is_bl, cmp_isn_bl, isNon_non, isNon_int, isNon_str, isNon_lst, isNon_tup, isNon_frl, isNon_obj, isNon_bl, ix_tup, ix_v, ix_f, ix_b, tg_nm, tg_t2, tg_t3, asg_nm, asg_t2, asg_t3, nm_val, nm_fresh, nm_stt, sl_val, sl_brw, sl_stt, ty_int, ty_tt, ty_tv, ty_lv, ty_tf, ty_lf, ty_tb, ty_lb, ty_lt, slc_tup, slc_v, slc_f, slc_b, slc_str, ti, li, p2, it_sq, len_sq, rng_1, rng_2, it_sqR, len_sqR, rd_sqR, as_sqR, z2]
  refine eqv_d K.eq ?_
  simpa [wS, wE, wEs, wT, wC, wO, wIt, wipeD, frzD, Cst.d, asAll, startD, wEq_int, wEq_str, wEq_bl, wBi_len, wBi_abs, wBi_min2, wBi_max2, see_val, see_fresh, see_brw, dat_val, dat_fresh, out_val, out_fresh, out_stt, tru_non, tru_bl, tru_int, tru_lst, tru_tup, tru_fresh, tru_brw, as_vv, as_vf, as_s, as_av, as_af, as_ab, as_bf, as_bb, as_bl, lv_lst, lv_fresh, lv_brw, int_int, len_lst, len_tup, len_frl, len_fresh, len_brw, rd_val, rd_own, rd_bor, rd_stt, it_lst, it_tup, it_frl, it_fresh, it_brw, bin_add, bin_sub, bin_mul, bin_fdiv, bin_mod, bin_pow, bin_str, cat_vv, cat_vf, cat_vb, rep_v, cat_fv, cat_ff, cat_fb, rep_f, cat_bv, cat_bf, cat_bb, rep_b, cmp_eq_vv, cmp_eq_fv, cmp_eq_vf, cmp_eq_ff, cmp_eq_fb, cmp_eq_bv, cmp_eq_vb, cmp_eq_bf, cmp_eq_bb, cmp_ne_vv, cmp_ne_fv, cmp_ne_vf, cmp_ne_ff, cmp_ne_fb, cmp_ne_bv, cmp_ne_vb, cmp_ne_bf, cmp_ne_bb, cmp_lt, cmp_le, cmp_gt, cmp_ge, cmp_is_non, cmp_isn_non, cmp_is_bl, cmp_isn_bl, isNon_non, isNon_int, isNon_str, isNon_lst, isNon_tup, isNon_frl, isNon_obj, isNon_bl, ix_tup, ix_v, ix_f, ix_b, tg_nm, tg_t2, tg_t3, asg_nm, asg_t2, asg_t3, nm_val, nm_fresh, nm_stt, sl_val, sl_brw, sl_stt, ty_int, ty_tt, ty_tv, ty_lv, ty_tf, ty_lf, ty_tb, ty_lb, ty_lt, slc_tup, slc_v, slc_f, slc_b, slc_str, ti, li, p2, it_sq, len_sq, rng_1, rng_2, it_sqR, len_sqR, rd_sqR, as_sqR, dailyD] using hk
theorem l8 (K : Kn C) {l : Nat} {es : List Int} {e0 : Int} (g : Good es) (hl : es.length = l) (h0 : 0 ≤ e0) {s2 s4 s5 s6 s7 s12 s13 s14 : Sl} {W : WD}
    (hk : ∀ s7 s8 s9, W.nx [.val sc, .stt, s2, .val (.int l), s4, s5, s6, s7, s8, s9, .val (dailyD es), .val (li es), s12, s13, s14]) :
    wS C ir_l_8 [.val sc, .stt, s2, .val (.int l), s4, s5, s6, s7, .val (dailyD es), .val (.tup [p2 (0, e0 + l)]), .val (dailyD es), .val (li es), s12, s13, s14] W X := by
  have l1 := g.lo
  have l2 := g.hi
  have ne : [((0 : Int), e0 + l)] ≠ [] := by simp
  have up : ∀ p ∈ [((0 : Int), e0 + l)], p.1 ≤ p.2 := by
    intro p hp
    simp only [List.mem_cons, List.not_mem_nil, or_false] at hp
    subst hp
    simp only
    omega
  simp [ir_l_8, ir_l_5, wS, wE, wEs, wT, wC, wO, wIt, wipeD, frzD, Cst.d, asAll, startD, wEq_int, wEq_str, wEq_bl, wBi_len, wBi_abs, wBi_min2, wBi_max2, see_val, see_fresh, see_brw, dat_val, dat_fresh, out_val, out_fresh, out_stt, tru_non, tru_bl, tru_int, tru_lst, tru_tup, tru_fresh, tru_brw, as_vv, as_vf, as_s, as_av, as_af, as_ab, as_bf, as_bb, as_bl, lv_lst, lv_fresh, lv_brw, int_int, len_lst, len_tup, len_frl, len_fresh, len_brw, rd_val, rd_own, rd_bor, rd_stt, it_lst, it_tup, it_frl, it_fresh, it_brw, bin_add, bin_sub, bin_mul, bin_fdiv, bin_mod, bin_pow, bin_str, cat_vv, cat_vf, cat_vb, rep_v, cat_fv, cat_ff, cat_fb, rep_f, cat_bv, cat_bf, cat_bb, rep_b, cmp_eq_vv, cmp_eq_fv, cmp_eq_vf, cmp_eq_ff, cmp_eq_fb, cmp_eq_bv, cmp_eq_vb, cmp_eq_bf, cmp_eq_bb, cmp_ne_vv, cmp_ne_fv, cmp_ne_vf, cmp_ne_ff, cmp_ne_fb, cmp_ne_bv, cmp_ne_vb, cmp_ne_bf, cmp_ne_bb, cmp_lt, cmp_le, cmp_gt, cmp_ge, cmp_is_non, cmp_isn_non, cmp_is_bl, cmp_isn_bl, isNon_non, isNon_int, isNon_str, isNon_lst, isNon_tup, isNon_frl, isNon_obj, isNon_bl, ix_tup, ix_v, ix_f, ix_b, tg_nm, tg_t2, tg_t3, asg_nm, asg_t2, asg_t3, nm_val, nm_fresh, nm_stt, sl_val, sl_brw, sl_stt, ty_int, ty_tt, ty_tv, ty_lv, ty_tf, ty_lf, ty_tb, ty_lb, ty_lt, slc_tup, slc_v, slc_f, slc_b, slc_str, ti, li, p2, it_sq, len_sq, rng_1, rng_2, it_sqR, len_sqR, rd_sqR, as_sqR, K.says.1, K.day.1, K.map.1]
  refine eq_d K.eq ?_
  try simp [wS, wE, wEs, wT, wC, wO, wIt, wipeD, frzD, Cst.d, asAll, startD, wEq_int, wEq_str, wEq_bl, wBi_len, wBi_abs, wBi_min2, wBi_max2, see_val, see_fresh, see_brw, dat_val, dat_fresh, out_val, out_fresh, out_stt, tru_non, tru_bl, tru_int, tru_lst, tru_tup, tru_fresh, tru_brw, as_vv, as_vf, as_s, as_av, as_af, as_ab, as_bf, as_bb, as_bl, lv_lst, lv_fresh, lv_brw, int_int, len_lst, len_tup, len_frl, len_fresh, len_brw, rd_val, rd_own, rd_bor, rd_stt, it_lst, it_tup, it_frl, it_fresh, it_brw, bin_add, bin_sub, bin_mul, bin_fdiv, bin_mod, bin_pow, bin_str, cat_vv, cat_vf, cat_vb, rep_v, cat_fv, cat_ff, cat_fb, rep_f, cat_bv, cat_bf, cat_bb, rep_b, cmp_eq_vv, cmp_eq_fv, cmp_eq_vf, cmp_eq_ff, cmp_eq_fb, cmp_eq_bv, cmp_eq_vb, cmp_eq_bf, cmp_eq_bb, cmp_ne_vv, cmp_ne_fv, cmp_ne_vf, cmp_ne_ff, cmp_ne_fb, cmp_ne_bv, cmp_ne_vb, cmp_ne_bf, cmp_ne_bb, cmp_lt, cmp_le, cmp_gt, cmp_ge, cmp_is_non, cmp_isn_non, cmp_is_bl, cmp_isn_bl, isNon_non, isNon_int, isNon_str, isNon_lst, isNon_tup, isNon_frl, isNon_obj, isNon_bl, ix_tup, ix_v, ix_f, ix_b, tg_nm, tg_t2, tg_t3, asg_nm, asg_t2, asg_t3, nm_val, nm_fresh, nm_stt, sl_val, sl_brw, sl_stt, ty_int, ty_tt, ty_tv, ty_lv, ty_tf, ty_lf, ty_tb, ty_lb, ty_lt, slc_tup, slc_v, slc_f, slc_b, slc_str, ti, li, p2, it_sq, len_sq, rng_1, rng_2, it_sqR, len_sqR, rd_sqR, as_sqR]
  refine says_call (C := C) (by first | rfl | simp) ?_
  simp [wS, wE, wEs, wT, wC, wO, wIt, wipeD, frzD, Cst.d, asAll, startD, wEq_int, wEq_str, wEq_bl, wBi_len, wBi_abs, wBi_min2, wBi_max2, see_val, see_fresh, see_brw, dat_val, dat_fresh, out_val, out_fresh, out_stt, tru_non, tru_bl, tru_int, tru_lst, tru_tup, tru_fresh, tru_brw, as_vv, as_vf, as_s, as_av, as_af, as_ab, as_bf, as_bb, as_bl, lv_lst, lv_fresh, lv_brw, int_int, len_lst, len_tup, len_frl, len_fresh, len_brw, rd_val, rd_own, rd_bor, rd_stt, it_lst, it_tup, it_frl, it_fresh, it_brw, bin_add, bin_sub, bin_mul, bin_fdiv, bin_mod, bin_pow, bin_str, cat_vv, cat_vf, cat_vb, rep_v, cat_fv, cat_ff, cat_fb, rep_f, cat_bv, cat_bf, cat_bb, rep_b, cmp_eq_vv, cmp_eq_fv, cmp_eq_vf, cmp_eq_ff, cmp_eq_fb, cmp_eq_bv, cmp_eq_vb, cmp_eq_bf, cmp_eq_bb, cmp_ne_vv, cmp_ne_fv, cmp_ne_vf, cmp_ne_ff, cmp_ne_fb, cmp_ne_bv, cmp_ne_vb, cmp_ne_bf, cmp_ne_bb, cmp_lt, cmp_le, cmp_gt, cmp_ge, cmp_is_non, cmp_isn_non, cmp_is_bl, cmp_isn_bl, isNon_non, isNon_int, isNon_str, isNon_lst, isNon_tup, isNon_frl, isNon_obj, isNon_bl, ix_tup, ix_v, ix_f, ix_b, tg_nm, tg_t2, tg_t3, asg_nm, asg_t2, asg_t3, nm_val, nm_fresh, nm_stt, sl_val, sl_brw, sl_stt, ty_int, ty_tt, ty_tv, ty_lv, ty_tf, ty_lf, ty_tb, ty_lb, ty_lt, slc_tup, slc_v, slc_f, slc_b, slc_str, ti, li, p2, it_sq, len_sq, rng_1, rng_2, it_sqR, len_sqR, rd_sqR, as_sqR]
  refine day_call (k := .l) (rs := [(0, e0 + l)]) (by simp [wS, wE, wEs, wT, wC, wO, wIt, wipeD, frzD, Cst.d, asAll, startD, wEq_int, wEq_str, wEq_bl, wBi_len, wBi_abs, wBi_min2, wBi_max2, see_val, see_fresh, see_brw, dat_val, dat_fresh, out_val, out_fresh, out_stt, tru_non, tru_bl, tru_int, tru_lst, tru_tup, tru_fresh, tru_brw, as_vv, as_vf, as_s, as_av, as_af, as_ab, as_bf, as_bb, as_bl, lv_lst, lv_fresh, lv_brw, int_int, len_lst, len_tup, len_frl, len_fresh, len_brw, rd_val, rd_own, rd_bor, rd_stt, it_lst, it_tup, it_frl, it_fresh, it_brw, bin_add, bin_sub, bin_mul, bin_fdiv, bin_mod, bin_pow, bin_str, cat_vv, cat_vf, cat_vb, rep_v, cat_fv, cat_ff, cat_fb, rep_f, cat_bv, cat_bf, cat_bb, rep_b, cmp_eq_vv, cmp_eq_fv, cmp_eq_vf, cmp_eq_ff, cmp_eq_fb, cmp_eq_bv, cmp_eq_vb, cmp_eq_bf, cmp_eq_bb, cmp_ne_vv, cmp_ne_fv, cmp_ne_vf, cmp_ne_ff, cmp_ne_fb, cmp_ne_bv, cmp_ne_vb, cmp_ne_bf, cmp_ne_bb, cmp_lt, cmp_le, cmp_gt, cmp_ge, cmp_is_non, cmp_isn_non, cmp_is_bl, cmp_isn_bl, isNon_non, isNon_int, isNon_str, isNon_lst, isNon_tup, isNon_frl, isNon_obj, isNon_bl, ix_tup, ix_v, ix_f, ix_b, tg_nm, tg_t2, tg_t3, asg_nm, asg_t2, asg_t3, nm_val, nm_fresh, nm_stt, sl_val, sl_brw, sl_stt, ty_int, ty_tt, ty_tv, ty_lv, ty_tf, ty_lf, ty_tb, ty_lb, ty_lt, slc_tup, slc_v, slc_f, slc_b, slc_str, ti, li, p2, it_sq, len_sq, rng_1, rng_2, it_sqR, len_sqR, rd_sqR, as_sqR, sqR]) (by omega) (by omega) ne (by simp) up ?_
  try simp [wS, wE, wEs, wT, wC, wO, wIt, wipeD, frzD, Cst.d, asAll, startD, wEq_int, wEq_str, wEq_bl, wBi_len, wBi_abs, wBi_min2, wBi_max2, see_val, see_fresh, see_brw, dat_val, dat_fresh, out_val, out_fresh, out_stt, tru_non, tru_bl, tru_int, tru_lst, tru_tup, tru_fresh, tru_brw, as_vv, as_vf, as_s, as_av, as_af, as_ab, as_bf, as_bb, as_bl, lv_lst, lv_fresh, lv_brw, int_int, len_lst, len_tup, len_frl, len_fresh, len_brw, rd_val, rd_own, rd_bor, rd_stt, it_lst, it_tup, it_frl, it_fresh, it_brw, bin_add, bin_sub, bin_mul, bin_fdiv, bin_mod, bin_pow, bin_str, cat_vv, cat_vf, cat_vb, rep_v, cat_fv, cat_ff, cat_fb, rep_f, cat_bv, cat_bf, cat_bb, rep_b, cmp_eq_vv, cmp_eq_fv, cmp_eq_vf, cmp_eq_ff, cmp_eq_fb, cmp_eq_bv, cmp_eq_vb, cmp_eq_bf, cmp_eq_bb, cmp_ne_vv, cmp_ne_fv, cmp_ne_vf, cmp_ne_ff, cmp_ne_fb, cmp_ne_bv, cmp_ne_vb, cmp_ne_bf, cmp_ne_bb, cmp_lt, cmp_le, cmp_gt, cmp_ge, cmp_is_non, cmp_isn_non, cmp_is_bl, cmp_isn_bl, isNon_non, isNon_int, isNon_str, isNon_lst, isNon_tup, isNon_frl, isNon_obj, isNon_bl, ix_tup, ix_v, ix_f, ix_b, tg_nm, tg_t2, tg_t3, asg_nm, asg_t2, asg_t3, nm_val, nm_fresh, nm_stt, sl_val, sl_brw, sl_stt, ty_int, ty_tt, ty_tv, ty_lv, ty_tf, ty_lf, ty_tb, ty_lb, ty_lt, slc_tup, slc_v, slc_f, slc_b, slc_str, ti, li, p2, it_sq, len_sq, rng_1, rng_2, it_sqR, len_sqR, rd_sqR, as_sqR]
  refine eq_d K.eq ?_
  try simp [wS, wE, wEs, wT, wC, wO, wIt, wipeD, frzD, Cst.d, asAll, startD, wEq_int, wEq_str, wEq_bl, wBi_len, wBi_abs, wBi_min2, wBi_max2, see_val, see_fresh, see_brw, dat_val, dat_fresh, out_val, out_fresh, out_stt, tru_non, tru_bl, tru_int, tru_lst, tru_tup, tru_fresh, tru_brw, as_vv, as_vf, as_s, as_av, as_af, as_ab, as_bf, as_bb, as_bl, lv_lst, lv_fresh, lv_brw, int_int, len_lst, len_tup, len_frl, len_fresh, len_brw, rd_val, rd_own, rd_bor, rd_stt, it_lst, it_tup, it_frl, it_fresh, it_brw, bin_add, bin_sub, bin_mul, bin_fdiv, bin_mod, bin_pow, bin_str, cat_vv, cat_vf, cat_vb, rep_v, cat_fv, cat_ff, cat_fb, rep_f, cat_bv, cat_bf, cat_bb, rep_b, cmp_eq_vv, cmp_eq_fv, cmp_eq_vf, cmp_eq_ff, cmp_eq_fb, cmp_eq_bv, cmp_eq_vb, cmp_eq_bf, cmp_eq_bb, cmp_ne_vv, cmp_ne_fv, cmp_ne_vf, cmp_ne_ff, cmp_ne_fb, cmp_ne_bv, cmp_ne_vb, cmp_ne_bf, cmp_ne_bb, cmp_lt, cmp_le, cmp_gt, cmp_ge, cmp_is_non, cmp_isn_non, cmp_is_bl, cmp_isn_bl, isNon_non, isNon_int, isNon_str, isNon_lst, isNon_tup, isNon_frl, isNon_obj, isNon_bl, ix_tup, ix_v, ix_f, ix_b, tg_nm, tg_t2, tg_t3, asg_nm, asg_t2, asg_t3, nm_val, nm_fresh, nm_stt, sl_val, sl_brw, sl_stt, ty_int, ty_tt, ty_tv, ty_lv, ty_tf, ty_lf, ty_tb, ty_lb, ty_lt, slc_tup, slc_v, slc_f, slc_b, slc_str, ti, li, p2, it_sq, len_sq, rng_1, rng_2, it_sqR, len_sqR, rd_sqR, as_sqR]
  refine wcall_of (α := Nat × Bool × List (Int × Int)) (l, true, [(0, e0 + l)]) (by simp [wS, wE, wEs, wT, wC, wO, wIt, wipeD, frzD, Cst.d, asAll, startD, wEq_int, wEq_str, wEq_bl, wBi_len, wBi_abs, wBi_min2, wBi_max2, see_val, see_fresh, see_brw, dat_val, dat_fresh, out_val, out_fresh, out_stt, tru_non, tru_bl, tru_int, tru_lst, tru_tup, tru_fresh, tru_brw, as_vv, as_vf, as_s, as_av, as_af, as_ab, as_bf, as_bb, as_bl, lv_lst, lv_fresh, lv_brw, int_int, len_lst, len_tup, len_frl, len_fresh, len_brw, rd_val, rd_own, rd_bor, rd_stt, it_lst, it_tup, it_frl, it_fresh, it_brw, bin_add, bin_sub, bin_mul, bin_fdiv, bin_mod, bin_pow, bin_str, cat_vv, cat_vf, cat_vb, rep_v, cat_fv, cat_ff, cat_fb, rep_f, cat_bv, cat_bf, cat_bb, rep_b, cmp_eq_vv, cmp_eq_fv, cmp_eq_vf, cmp_eq_ff, cmp_eq_fb, cmp_eq_bv, cmp_eq_vb, cmp_eq_bf, cmp_eq_bb, cmp_ne_vv, cmp_ne_fv, cmp_ne_vf, cmp_ne_ff, cmp_ne_fb, cmp_ne_bv, cmp_ne_vb, cmp_ne_bf, cmp_ne_bb, cmp_lt, cmp_le, cmp_gt, cmp_ge, cmp_is_non, cmp_isn_non, cmp_is_bl, cmp_isn_bl, isNon_non, isNon_int, isNon_str, isNon_lst, isNon_tup, isNon_frl, isNon_obj, isNon_bl, ix_tup, ix_v, ix_f, ix_b, tg_nm, tg_t2, tg_t3, asg_nm, asg_t2, asg_t3, nm_val, nm_fresh, nm_stt, sl_val, sl_brw, sl_stt, ty_int, ty_tt, ty_tv, ty_lv, ty_tf, ty_lf, ty_tb, ty_lb, ty_lt, slc_tup, slc_v, slc_f, slc_b, slc_str, ti, li, p2, it_sq, len_sq, rng_1, rng_2, it_sqR, len_sqR, rd_sqR, as_sqR, sq]) ⟨by omega, by omega, ne, by simp⟩ ?_
  rintro r rfl
  simp only [lawMap_eq (show 1 ≤ l by omega)]
  simp [wS, wE, wEs, wT, wC, wO, wIt, wipeD, frzD, Cst.d, asAll, startD, wEq_int, wEq_str, wEq_bl, wBi_len, wBi_abs, wBi_min2, wBi_max2, see_val, see_fresh, see_brw, dat_val, dat_fresh, out_val, out_fresh, out_stt, tru_non, tru_bl, tru_int, tru_lst, tru_tup, tru_fresh, tru_brw, as_vv, as_vf, as_s, as_av, as_af, as_ab, as_bf, as_bb, as_bl, lv_lst, lv_fresh, lv_brw, int_int, len_lst, len_tup, len_frl, len_fresh, len_brw, rd_val, rd_own, rd_bor, rd_stt, it_lst, it_tup, it_frl, it_fresh, it_brw, bin_add, bin_sub, bin_mul, bin_fdiv, bin_mod, bin_pow, bin_str, cat_vv, cat_vf, cat_vb, rep_v, cat_fv, cat_ff, cat_fb, rep_f, cat_bv, cat_bf, cat_bb, rep_b, cmp_eq_vv, cmp_eq_fv, cmp_eq_vf, cmp_eq_ff, cmp_eq_fb, cmp_eq_bv, cmp_eq_vb, cmp_eq_bf, cmp_eq_bb, cmp_ne_vv, cmp_ne_fv, cmp_ne_vf, cmp_ne_ff, cmp_ne_fb, cmp_ne_bv, cmp_ne_vb, cmp_ne_bf, cmp_ne_bb, cmp_lt, cmp_le, cmp_gt, cmp_ge, cmp_is_non, cmp_isn_non, cmp_is_bl, cmp_isn_bl, isNon_non, isNon_int, isNon_str, isNon_lst, isNon_tup, isNon_frl, isNon_obj, isNon_bl, ix_tup, ix_v, ix_f, ix_b, tg_nm, tg_t2, tg_t3, asg_nm, asg_t2, asg_t3, nm_val, nm_fresh, nm_stt, sl_val, sl_brw, sl_stt, ty_int, ty_tt, ty_tv, ty_lv, ty_tf, ty_lf, ty_tb, ty_lb, ty_lt, slc_tup, slc_v, slc_f, slc_b, slc_str, ti, li, p2, it_sq, len_sq, rng_1, rng_2, it_sqR, len_sqR, rd_sqR, as_sqR]
  refine wEq_li ?_
  refine says_call (C := C) ?_ ?_
  · simp only [Bool.false_xor]
    rw [Bool.eq_iff_iff]
    simp only [decide_eq_true_eq]
    exact eq_comm
  · simp [wS, wE, wEs, wT, wC, wO, wIt, wipeD, frzD, Cst.d, asAll, startD, wEq_int, wEq_str, wEq_bl, wBi_len, wBi_abs, wBi_min2, wBi_max2, see_val, see_fresh, see_brw, dat_val, dat_fresh, out_val, out_fresh, out_stt, tru_non, tru_bl, tru_int, tru_lst, tru_tup, tru_fresh, tru_brw, as_vv, as_vf, as_s, as_av, as_af, as_ab, as_bf, as_bb, as_bl, lv_lst, lv_fresh, lv_brw, int_int, len_lst, len_tup, len_frl, len_fresh, len_brw, rd_val, rd_own, rd_bor, rd_stt, it_lst, it_tup, it_frl, it_fresh, it_brw, bin_add, bin_sub, bin_mul, bin_fdiv, bin_mod, bin_pow, bin_str, cat_vv, cat_vf, cat_vb, rep_v, cat_fv, cat_ff, cat_fb, rep_f, cat_bv, cat_bf, cat_bb, rep_b, cmp_eq_vv, cmp_eq_fv, cmp_eq_vf, cmp_eq_ff, cmp_eq_fb, cmp_eq_bv, cmp_eq_vb, cmp_eq_bf, cmp_eq_bb, cmp_ne_vv, cmp_ne_fv, cmp_ne_vf, cmp_ne_ff, cmp_ne_fb, cmp_ne_bv, cmp_ne_vb, cmp_ne_bf, cmp_ne_bb, cmp_lt, cmp_le, cmp_gt, cmp_ge, cmp_is_non, cmp_isn_non, cmp_is_bl, cmp_isn_bl, isNon_non, isNon_int, isNon_str, isNon_lst, isNon_tup, isNon_frl, isNon_obj, isNon_bl, ix_tup, ix_v, ix_f, ix_b, tg_nm, tg_t2, tg_t3, asg_nm, asg_t2, asg_t3, nm_val, nm_fresh, nm_stt, sl_val, sl_brw, sl_stt, ty_int, ty_tt, ty_tv, ty_lv, ty_tf, ty_lf, ty_tb, ty_lb, ty_lt, slc_tup, slc_v, slc_f, slc_b, slc_str, ti, li, p2, it_sq, len_sq, rng_1, rng_2, it_sqR, len_sqR, rd_sqR, as_sqR]
    exact l7 K g hl (hk _ _ _)
theorem l9 (K : Kn C) {l : Nat} {es : List Int} (g : Good es) (hl : es.length = l) {s2 s4 s5 s6 s7 s9 s12 s13 s14 : Sl} {W : WD}
    (hk : ∀ s7 s8 s9, W.nx [.val sc, .stt, s2, .val (.int l), s4, s5, s6, s7, s8, s9, .val (dailyD es), .val (li es), s12, s13, s14]) :
    wS C ir_l_9 [.val sc, .stt, s2, .val (.int l), s4, s5, s6, s7, .val (dailyD es), s9, .val (dailyD es), .val (li es), s12, s13, s14] W X := by
  have l1 := g.lo
  have z2 : (2 : Nat) ≤ sizeLine := by rw [sizeLine_eq]; decide
  have z1 : (1 : Nat) ≤ sizeLine := by rw [sizeLine_eq]; decide
  have e := atI_map (xs := es) (i := 0) (by omega) (by omega)
  simp [ir_l_9, wS, wE, wEs, wT, wC, wO, wIt, wipeD, frzD, Cst.d, asAll, startD, wEq_int, wEq_str, wEq_bl, wBi_len, wBi_abs, wBi_min2, wBi_max2, see_val, see_fresh, see_brw, dat_val, dat_fresh, out_val, out_fresh, out_stt, tru_non, tru_bl, tru_int, tru_lst, tru_tup, tru_fresh, tru_brw, as_vv, as_vf, as_s, as_av, as_af, as_ab, as_bf, as_bb, as_bl, lv_lst, lv_fresh, lv_brw, int_int, len_lst, len_tup, len_frl, len_fresh, len_brw, rd_val, rd_own, rd_bor, rd_stt, it_lst, it_tup, it_frl, it_fresh, it_brw, bin_add, bin_sub, bin_mul, bin_fdiv, bin_mod, bin_pow, bin_str, cat_vv, cat_vf, cat_vb, rep_v, cat_fv, cat_ff, cat_fb, rep_f, cat_bv, cat_bf, cat_bb, rep_b, cmp_eq_vv, cmp_eq_fv, cmp_eq_vf, cmp_eq_ff, cmp_eq_fb, cmp_eq_bv, cmp_eq_vb, cmp_eq_bf, cmp_eq_bb, cmp_ne_vv, cmp_ne_fv, cmp_ne_vf, cmp_ne_ff, cmp_ne_fb, cmp_ne_bv, cmp_ne_vb, cmp_ne_bf, cmp_ne_bb, cmp_lt, cmp_le, cmp_gt, cmp_ge, cmp_is_non, cmp_isn_non, cmp_is_bl, cmp_isn_bl, isNon_non, isNon_int, isNon_str, isNon_lst, isNon_tup, isNon_frl, isNon_obj, isNon_bl, ix_tup, ix_v, ix_f, ix_b, tg_nm, tg_t2, tg_t3, asg_nm, asg_t2, asg_t3, nm_val, nm_fresh, nm_stt, sl_val, sl_brw, sl_stt, ty_int, ty_tt, ty_tv, ty_lv, ty_tf, ty_lf, ty_tb, ty_lb, ty_lt, slc_tup, slc_v, slc_f, slc_b, slc_str, ti, li, p2, it_sq, len_sq, rng_1, rng_2, it_sqR, len_sqR, rd_sqR, as_sqR, e, z2, z1]
  have h0 : 0 ≤ es.getD 0 0 := by
    have := g.up 0
    rw [ledOn_in (by omega) (by omega)] at this
    simpa using this
  have := l8 (sc := sc) (X := X) K g hl h0 (s2 := s2) (s4 := s4) (s5 := s5) (s6 := s6) (s7 := s7) (s12 := s12) (s13 := s13) (s14 := s14) (W := W) hk
  simpa [wS, wE, wEs, wT, wC, wO, wIt, wipeD, frzD, Cst.d, asAll, startD, wEq_int, wEq_str, wEq_bl, wBi_len, wBi_abs, wBi_min2, wBi_max2, see_val, see_fresh, see_brw, dat_val, dat_fresh, out_val, out_fresh, out_stt, tru_non, tru_bl, tru_int, tru_lst, tru_tup, tru_fresh, tru_brw, as_vv, as_vf, as_s, as_av, as_af, as_ab, as_bf, as_bb, as_bl, lv_lst, lv_fresh, lv_brw, int_int, len_lst, len_tup, len_frl, len_fresh, len_brw, rd_val, rd_own, rd_bor, rd_stt, it_lst, it_tup, it_frl, it_fresh, it_brw, bin_add, bin_sub, bin_mul, bin_fdiv, bin_mod, bin_pow, bin_str, cat_vv, cat_vf, cat_vb, rep_v, cat_fv, cat_ff, cat_fb, rep_f, cat_bv, cat_bf, cat_bb, rep_b, cmp_eq_vv, cmp_eq_fv, cmp_eq_vf, cmp_eq_ff, cmp_eq_fb, cmp_eq_bv, cmp_eq_vb, cmp_eq_bf, cmp_eq_bb, cmp_ne_vv, cmp_ne_fv, cmp_ne_vf, cmp_ne_ff, cmp_ne_fb, cmp_ne_bv, cmp_ne_vb, cmp_ne_bf, cmp_ne_bb, cmp_lt, cmp_le, cmp_gt, cmp_ge, cmp_is_non, cmp_isn_non, cmp_is_bl, cmp_isn_bl, isNon_non, isNon_int, isNon_str, isNon_lst, isNon_tup, isNon_frl, isNon_obj, isNon_bl, ix_tup, ix_v, ix_f, ix_b, tg_nm, tg_t2, tg_t3, asg_nm, asg_t2, asg_t3, nm_val, nm_fresh, nm_stt, sl_val, sl_brw, sl_stt, ty_int, ty_tt, ty_tv, ty_lv, ty_tf, ty_lf, ty_tb, ty_lb, ty_lt, slc_tup, slc_v, slc_f, slc_b, slc_str, ti, li, p2, it_sq, len_sq, rng_1, rng_2, it_sqR, len_sqR, rd_sqR, as_sqR] using this
theorem l10 (K : Kn C) {l : Nat} {rs : List (Int × Int)} (hl : 1 ≤ l) (hl2 : l ≤ 60) (R0 : SomeRides l rs) {s2 s4 s5 s6 s8 s9 s12 s13 s14 : Sl} {W : WD}
    (hk : ∀ s7 s8 s9, W.nx [.val sc, .stt, s2, .val (.int l), s4, s5, s6, s7, s8, s9, .val (dailyD (endsOf l rs)), .val (li (endsOf l rs)), s12, s13, s14]) :
    wS C ir_l_10 [.val sc, .stt, s2, .val (.int l), s4, s5, s6, .val (.lst ((movedR l (rs ++ rs.take 3)).map p2)), s8, s9, .val (dailyD (endsOf l rs)), .val (li (endsOf l rs)), s12, s13, s14] W X := by
  have g : Good (endsOf l rs) := good_ends hl hl2 R0.ne R0.up
  have gl : (endsOf l rs).length = l := endsOf_length _ _
  have z2 : (2 : Nat) ≤ sizeLine := by rw [sizeLine_eq]; decide
  have z1 : (1 : Nat) ≤ sizeLine := by rw [sizeLine_eq]; decide
  have e := atI_map (xs := endsOf l rs) (i := 0) (by omega) (by omega)
  have e0 : (endsOf l rs).getD 0 0 = ledOn (endsOf l rs) 0 := by rw [ledOn_in (by omega) (by omega)]; rfl
  have lt : ((movedR l (rs ++ rs.take 3)).take 60).length ≤ 60 := by rw [List.length_take]; exact Nat.min_le_left _ _
  simp [ir_l_10, wS, wE, wEs, wT, wC, wO, wIt, wipeD, frzD, Cst.d, asAll, startD, wEq_int, wEq_str, wEq_bl, wBi_len, wBi_abs, wBi_min2, wBi_max2, see_val, see_fresh, see_brw, dat_val, dat_fresh, out_val, out_fresh, out_stt, tru_non, tru_bl, tru_int, tru_lst, tru_tup, tru_fresh, tru_brw, as_vv, as_vf, as_s, as_av, as_af, as_ab, as_bf, as_bb, as_bl, lv_lst, lv_fresh, lv_brw, int_int, len_lst, len_tup, len_frl, len_fresh, len_brw, rd_val, rd_own, rd_bor, rd_stt, it_lst, it_tup, it_frl, it_fresh, it_brw, bin_add, bin_sub, bin_mul, bin_fdiv, bin_mod, bin_pow, bin_str, cat_vv, cat_vf, cat_vb, rep_v, cat_fv, cat_ff, cat_fb, rep_f, cat_bv, cat_bf, cat_bb, rep_b, cmp_eq_vv, cmp_eq_fv, cmp_eq_vf, cmp_eq_ff, cmp_eq_fb, cmp_eq_bv, cmp_eq_vb, cmp_eq_bf, cmp_eq_bb, cmp_ne_vv, cmp_ne_fv, cmp_ne_vf, cmp_ne_ff, cmp_ne_fb, cmp_ne_bv, cmp_ne_vb, cmp_ne_bf, cmp_ne_bb, cmp_lt, cmp_le, cmp_gt, cmp_ge, cmp_is_non, cmp_isn_non, cmp_is_bl, cmp_isn_bl, isNon_non, isNon_int, isNon_str, isNon_lst, isNon_tup, isNon_frl, isNon_obj, isNon_bl, ix_tup, ix_v, ix_f, ix_b, tg_nm, tg_t2, tg_t3, asg_nm, asg_t2, asg_t3, nm_val, nm_fresh, nm_stt, sl_val, sl_brw, sl_stt, ty_int, ty_tt, ty_tv, ty_lv, ty_tf, ty_lf, ty_tb, ty_lb, ty_lt, slc_tup, slc_v, slc_f, slc_b, slc_str, ti, li, p2, it_sq, len_sq, rng_1, rng_2, it_sqR, len_sqR, rd_sqR, as_sqR, K.shuf.1, K.dkw.1, cut_take]
  have ct : ((movedR l (rs ++ rs.take 3)).map p2).take 60 = ((movedR l (rs ++ rs.take 3)).take 60).map p2 := by simp
  refine wcall_of (α := Bool × List D) (false, ((movedR l (rs ++ rs.take 3)).take 60).map p2) (by simp [wS, wE, wEs, wT, wC, wO, wIt, wipeD, frzD, Cst.d, asAll, startD, wEq_int, wEq_str, wEq_bl, wBi_len, wBi_abs, wBi_min2, wBi_max2, see_val, see_fresh, see_brw, dat_val, dat_fresh, out_val, out_fresh, out_stt, tru_non, tru_bl, tru_int, tru_lst, tru_tup, tru_fresh, tru_brw, as_vv, as_vf, as_s, as_av, as_af, as_ab, as_bf, as_bb, as_bl, lv_lst, lv_fresh, lv_brw, int_int, len_lst, len_tup, len_frl, len_fresh, len_brw, rd_val, rd_own, rd_bor, rd_stt, it_lst, it_tup, it_frl, it_fresh, it_brw, bin_add, bin_sub, bin_mul, bin_fdiv, bin_mod, bin_pow, bin_str, cat_vv, cat_vf, cat_vb, rep_v, cat_fv, cat_ff, cat_fb, rep_f, cat_bv, cat_bf, cat_bb, rep_b, cmp_eq_vv, cmp_eq_fv, cmp_eq_vf, cmp_eq_ff, cmp_eq_fb, cmp_eq_bv, cmp_eq_vb, cmp_eq_bf, cmp_eq_bb, cmp_ne_vv, cmp_ne_fv, cmp_ne_vf, cmp_ne_ff, cmp_ne_fb, cmp_ne_bv, cmp_ne_vb, cmp_ne_bf, cmp_ne_bb, cmp_lt, cmp_le, cmp_gt, cmp_ge, cmp_is_non, cmp_isn_non, cmp_is_bl, cmp_isn_bl, isNon_non, isNon_int, isNon_str, isNon_lst, isNon_tup, isNon_frl, isNon_obj, isNon_bl, ix_tup, ix_v, ix_f, ix_b, tg_nm, tg_t2, tg_t3, asg_nm, asg_t2, asg_t3, nm_val, nm_fresh, nm_stt, sl_val, sl_brw, sl_stt, ty_int, ty_tt, ty_tv, ty_lv, ty_tf, ty_lf, ty_tb, ty_lb, ty_lt, slc_tup, slc_v, slc_f, slc_b, slc_str, ti, li, p2, it_sq, len_sq, rng_1, rng_2, it_sqR, len_sqR, rd_sqR, as_sqR, sq]) ⟨by simpa using Nat.min_le_left _ _, fun d hd => ?_⟩ ?_
  · obtain ⟨p, _, rfl⟩ := List.mem_map.mp hd
    exact ⟨.tuple [.int p.1, .int p.2], rfl, rfl, by simp [PyData.depth, PyData.depthAll]⟩
  rintro r ⟨ys, hp, rfl⟩
  obtain ⟨zs, hz, rfl⟩ := perm_p2 hp
  simp [wS, wE, wEs, wT, wC, wO, wIt, wipeD, frzD, Cst.d, asAll, startD, wEq_int, wEq_str, wEq_bl, wBi_len, wBi_abs, wBi_min2, wBi_max2, see_val, see_fresh, see_brw, dat_val, dat_fresh, out_val, out_fresh, out_stt, tru_non, tru_bl, tru_int, tru_lst, tru_tup, tru_fresh, tru_brw, as_vv, as_vf, as_s, as_av, as_af, as_ab, as_bf, as_bb, as_bl, lv_lst, lv_fresh, lv_brw, int_int, len_lst, len_tup, len_frl, len_fresh, len_brw, rd_val, rd_own, rd_bor, rd_stt, it_lst, it_tup, it_frl, it_fresh, it_brw, bin_add, bin_sub, bin_mul, bin_fdiv, bin_mod, bin_pow, bin_str, cat_vv, cat_vf, cat_vb, rep_v, cat_fv, cat_ff, cat_fb, rep_f, cat_bv, cat_bf, cat_bb, rep_b, cmp_eq_vv, cmp_eq_fv, cmp_eq_vf, cmp_eq_ff, cmp_eq_fb, cmp_eq_bv, cmp_eq_vb, cmp_eq_bf, cmp_eq_bb, cmp_ne_vv, cmp_ne_fv, cmp_ne_vf, cmp_ne_ff, cmp_ne_fb, cmp_ne_bv, cmp_ne_vb, cmp_ne_bf, cmp_ne_bb, cmp_lt, cmp_le, cmp_gt, cmp_ge, cmp_is_non, cmp_isn_non, cmp_is_bl, cmp_isn_bl, isNon_non, isNon_int, isNon_str, isNon_lst, isNon_tup, isNon_frl, isNon_obj, isNon_bl, ix_tup, ix_v, ix_f, ix_b, tg_nm, tg_t2, tg_t3, asg_nm, asg_t2, asg_t3, nm_val, nm_fresh, nm_stt, sl_val, sl_brw, sl_stt, ty_int, ty_tt, ty_tv, ty_lv, ty_tf, ty_lf, ty_tb, ty_lb, ty_lt, slc_tup, slc_v, slc_f, slc_b, slc_str, ti, li, p2, it_sq, len_sq, rng_1, rng_2, it_sqR, len_sqR, rd_sqR, as_sqR, e, z2, z1]
  rw [cut_take (by omega)]
  generalize hm : (60 - (↑(min 60 (movedR l (rs ++ List.take 3 rs)).length) : Int)).toNat = m
  have hzl : zs.length = min 60 (movedR l (rs ++ rs.take 3)).length := by rw [hz.length_eq, List.length_take]
  have e0' : (endsOf l rs)[0]?.getD 0 = ledOn (endsOf l rs) 0 := by rw [← e0]; simp [List.getD]
  have u0 := g.up 0
  have ex : [D.tup [D.int 0, D.int ((endsOf l rs)[0]?.getD 0 + 2)]].take m = ([((0 : Int), ledOn (endsOf l rs) 0 + 2)].take m).map p2 := by
    rw [e0', List.map_take]
    rfl
  have exl : (([((0 : Int), ledOn (endsOf l rs) 0 + 2)] : List (Int × Int)).take m).length ≤ m := by rw [List.length_take]; exact Nat.min_le_left _ _
  have exm : ∀ p ∈ ([((0 : Int), ledOn (endsOf l rs) 0 + 2)] : List (Int × Int)).take m, p = (0, ledOn (endsOf l rs) 0 + 2) := fun p hp => by simpa using List.mem_of_mem_take hp
  generalize hext : ([((0 : Int), ledOn (endsOf l rs) 0 + 2)] : List (Int × Int)).take m = ext at ex exl exm
  have zm : ∀ p ∈ zs, ∃ q ∈ rs, ∃ k : Int, p = (q.1 + l * k, q.2 + l * k) := fun p hp => moved_dn p (hz.subset hp)
  have nez : zs ++ ext ≠ [] := by
    obtain ⟨q, hq⟩ := List.exists_mem_of_ne_nil _ R0.ne
    obtain ⟨k, hk⟩ := moved_up (l := l) R0.len q hq
    have := hz.symm.subset hk
    exact List.ne_nil_of_mem (List.mem_append_left _ this)
  have tot : (zs ++ ext).length ≤ 60 := by
    rw [List.length_append]
    have : min 60 (movedR l (rs ++ rs.take 3)).length ≤ 60 := Nat.min_le_left _ _
    omega
  have same : endsOf l (zs ++ ext) = endsOf l rs := by
    refine same_map hl R0.ne (fun q hq => ?_) (fun p hp => ?_)
    · obtain ⟨k, hk⟩ := moved_up (l := l) R0.len q hq
      exact ⟨k, List.mem_append_left _ (hz.symm.subset hk)⟩
    · rcases List.mem_append.mp hp with hp | hp
      · exact .inl (zm p hp)
      · refine .inr fun n => ?_
        rw [exm p hp, ← ledOn_ends hl R0.ne]
        have := g.ride_ge 0 n
        rw [gl] at this
        simp only
        omega
  rw [ex]
  refine ⟨?_, ?_⟩
  · rw [List.length_map]
    have : zs.length + ext.length ≤ 60 := by rw [← List.length_append]; exact tot
    exact Nat.le_of_lt (size_big (by omega))
  · show wCall fsDaily [R.val (D.int l), R.fresh _] _ _
    refine day_call (k := .l) (rs := zs ++ ext) (by simp [wS, wE, wEs, wT, wC, wO, wIt, wipeD, frzD, Cst.d, asAll, startD, wEq_int, wEq_str, wEq_bl, wBi_len, wBi_abs, wBi_min2, wBi_max2, see_val, see_fresh, see_brw, dat_val, dat_fresh, out_val, out_fresh, out_stt, tru_non, tru_bl, tru_int, tru_lst, tru_tup, tru_fresh, tru_brw, as_vv, as_vf, as_s, as_av, as_af, as_ab, as_bf, as_bb, as_bl, lv_lst, lv_fresh, lv_brw, int_int, len_lst, len_tup, len_frl, len_fresh, len_brw, rd_val, rd_own, rd_bor, rd_stt, it_lst, it_tup, it_frl, it_fresh, it_brw, bin_add, bin_sub, bin_mul, bin_fdiv, bin_mod, bin_pow, bin_str, cat_vv, cat_vf, cat_vb, rep_v, cat_fv, cat_ff, cat_fb, rep_f, cat_bv, cat_bf, cat_bb, rep_b, cmp_eq_vv, cmp_eq_fv, cmp_eq_vf, cmp_eq_ff, cmp_eq_fb, cmp_eq_bv, cmp_eq_vb, cmp_eq_bf, cmp_eq_bb, cmp_ne_vv, cmp_ne_fv, cmp_ne_vf, cmp_ne_ff, cmp_ne_fb, cmp_ne_bv, cmp_ne_vb, cmp_ne_bf, cmp_ne_bb, cmp_lt, cmp_le, cmp_gt, cmp_ge, cmp_is_non, cmp_isn_non, cmp_is_bl, cmp_isn_bl, isNon_non, isNon_int, isNon_str, isNon_lst, isNon_tup, isNon_frl, isNon_obj, isNon_bl, ix_tup, ix_v, ix_f, ix_b, tg_nm, tg_t2, tg_t3, asg_nm, asg_t2, asg_t3, nm_val, nm_fresh, nm_stt, sl_val, sl_brw, sl_stt, ty_int, ty_tt, ty_tv, ty_lv, ty_tf, ty_lf, ty_tb, ty_lb, ty_lt, slc_tup, slc_v, slc_f, slc_b, slc_str, ti, li, p2, it_sq, len_sq, rng_1, rng_2, it_sqR, len_sqR, rd_sqR, as_sqR, sqR]) hl hl2 nez tot (fun p hp => ?_) ?_
    · rcases List.mem_append.mp hp with hp | hp
      · obtain ⟨q, hq, k, rfl⟩ := zm p hp
        have := R0.up q hq
        simp only
        omega
      · rw [exm p hp]
        simp only
        omega
    · rw [same]
      simp [wS, wE, wEs, wT, wC, wO, wIt, wipeD, frzD, Cst.d, asAll, startD, wEq_int, wEq_str, wEq_bl, wBi_len, wBi_abs, wBi_min2, wBi_max2, see_val, see_fresh, see_brw, dat_val, dat_fresh, out_val, out_fresh, out_stt, tru_non, tru_bl, tru_int, tru_lst, tru_tup, tru_fresh, tru_brw, as_vv, as_vf, as_s, as_av, as_af, as_ab, as_bf, as_bb, as_bl, lv_lst, lv_fresh, lv_brw, int_int, len_lst, len_tup, len_frl, len_fresh, len_brw, rd_val, rd_own, rd_bor, rd_stt, it_lst, it_tup, it_frl, it_fresh, it_brw, bin_add, bin_sub, bin_mul, bin_fdiv, bin_mod, bin_pow, bin_str, cat_vv, cat_vf, cat_vb, rep_v, cat_fv, cat_ff, cat_fb, rep_f, cat_bv, cat_bf, cat_bb, rep_b, cmp_eq_vv, cmp_eq_fv, cmp_eq_vf, cmp_eq_ff, cmp_eq_fb, cmp_eq_bv, cmp_eq_vb, cmp_eq_bf, cmp_eq_bb, cmp_ne_vv, cmp_ne_fv, cmp_ne_vf, cmp_ne_ff, cmp_ne_fb, cmp_ne_bv, cmp_ne_vb, cmp_ne_bf, cmp_ne_bb, cmp_lt, cmp_le, cmp_gt, cmp_ge, cmp_is_non, cmp_isn_non, cmp_is_bl, cmp_isn_bl, isNon_non, isNon_int, isNon_str, isNon_lst, isNon_tup, isNon_frl, isNon_obj, isNon_bl, ix_tup, ix_v, ix_f, ix_b, tg_nm, tg_t2, tg_t3, asg_nm, asg_t2, asg_t3, nm_val, nm_fresh, nm_stt, sl_val, sl_brw, sl_stt, ty_int, ty_tt, ty_tv, ty_lv, ty_tf, ty_lf, ty_tb, ty_lb, ty_lt, slc_tup, slc_v, slc_f, slc_b, slc_str, ti, li, p2, it_sq, len_sq, rng_1, rng_2, it_sqR, len_sqR, rd_sqR, as_sqR]
      have := l9 (sc := sc) (X := X) K g gl (s2 := s2) (s4 := s4) (s5 := s5) (s6 := s6) (s7 := .val (.lst ((movedR l (rs ++ rs.take 3)).map p2))) (s9 := s9) (s12 := s12) (s13 := s13) (s14 := s14) (W := W) hk
      simpa [wS, wE, wEs, wT, wC, wO, wIt, wipeD, frzD, Cst.d, asAll, startD, wEq_int, wEq_str, wEq_bl, wBi_len, wBi_abs, wBi_min2, wBi_max2, see_val, see_fresh, see_brw, dat_val, dat_fresh, out_val, out_fresh, out_stt, tru_non, tru_bl, tru_int, tru_lst, tru_tup, tru_fresh, tru_brw, as_vv, as_vf, as_s, as_av, as_af, as_ab, as_bf, as_bb, as_bl, lv_lst, lv_fresh, lv_brw, int_int, len_lst, len_tup, len_frl, len_fresh, len_brw, rd_val, rd_own, rd_bor, rd_stt, it_lst, it_tup, it_frl, it_fresh, it_brw, bin_add, bin_sub, bin_mul, bin_fdiv, bin_mod, bin_pow, bin_str, cat_vv, cat_vf, cat_vb, rep_v, cat_fv, cat_ff, cat_fb, rep_f, cat_bv, cat_bf, cat_bb, rep_b, cmp_eq_vv, cmp_eq_fv, cmp_eq_vf, cmp_eq_ff, cmp_eq_fb, cmp_eq_bv, cmp_eq_vb, cmp_eq_bf, cmp_eq_bb, cmp_ne_vv, cmp_ne_fv, cmp_ne_vf, cmp_ne_ff, cmp_ne_fb, cmp_ne_bv, cmp_ne_vb, cmp_ne_bf, cmp_ne_bb, cmp_lt, cmp_le, cmp_gt, cmp_ge, cmp_is_non, cmp_isn_non, cmp_is_bl, cmp_isn_bl, isNon_non, isNon_int, isNon_str, isNon_lst, isNon_tup, isNon_frl, isNon_obj, isNon_bl, ix_tup, ix_v, ix_f, ix_b, tg_nm, tg_t2, tg_t3, asg_nm, asg_t2, asg_t3, nm_val, nm_fresh, nm_stt, sl_val, sl_brw, sl_stt, ty_int, ty_tt, ty_tv, ty_lv, ty_tf, ty_lf, ty_tb, ty_lb, ty_lt, slc_tup, slc_v, slc_f, slc_b, slc_str, ti, li, p2, it_sq, len_sq, rng_1, rng_2, it_sqR, len_sqR, rd_sqR, as_sqR] using this
theorem l11 (K : Kn C) {l : Nat} {rs : List (Int × Int)} (hl : 1 ≤ l) (hl2 : l ≤ 60) (R0 : SomeRides l rs) {s2 s5 s6 s7 s8 s9 s12 s13 s14 : Sl} {W : WD}
    (hk : ∀ s4 s7 s8 s9, W.nx [.val sc, .stt, s2, .val (.int l), s4, s5, s6, s7, s8, s9, .val (dailyD (endsOf l rs)), .val (li (endsOf l rs)), s12, s13, s14]) :
    wS C ir_l_11 [.val sc, .stt, s2, .val (.int l), .val (.lst (rs.map p2)), s5, s6, s7, s8, s9, .val (dailyD (endsOf l rs)), .val (li (endsOf l rs)), s12, s13, s14] W X := by
  have z2 : (2 : Nat) ≤ sizeLine := by rw [sizeLine_eq]; decide
  have len := R0.len
  have ap : rs.map p2 ++ (rs.map p2).take 3 = (rs ++ rs.take 3).map p2 := by simp
  have ll : (rs ++ rs.take 3).length ≤ 120 := by simp; omega
  simp [ir_l_11, wS, wE, wEs, wT, wC, wO, wIt, wipeD, frzD, Cst.d, asAll, startD, wEq_int, wEq_str, wEq_bl, wBi_len, wBi_abs, wBi_min2, wBi_max2, see_val, see_fresh, see_brw, dat_val, dat_fresh, out_val, out_fresh, out_stt, tru_non, tru_bl, tru_int, tru_lst, tru_tup, tru_fresh, tru_brw, as_vv, as_vf, as_s, as_av, as_af, as_ab, as_bf, as_bb, as_bl, lv_lst, lv_fresh, lv_brw, int_int, len_lst, len_tup, len_frl, len_fresh, len_brw, rd_val, rd_own, rd_bor, rd_stt, it_lst, it_tup, it_frl, it_fresh, it_brw, bin_add, bin_sub, bin_mul, bin_fdiv, bin_mod, bin_pow, bin_str, cat_vv, cat_vf, cat_vb, rep_v, cat_fv, cat_ff, cat_fb, rep_f, cat_bv, cat_bf, cat_bb, rep_b, cmp_eq_vv, cmp_eq_fv, cmp_eq_vf, cmp_eq_ff, cmp_eq_fb, cmp_eq_bv, cmp_eq_vb, cmp_eq_bf, cmp_eq_bb, cmp_ne_vv, cmp_ne_fv, cmp_ne_vf, cmp_ne_ff, cmp_ne_fb, cmp_ne_bv, cmp_ne_vb, cmp_ne_bf, cmp_ne_bb, cmp_lt, cmp_le, cmp_gt, cmp_ge, cmp_is_non, cmp_isn_non, cmp_is_bl, cmp_isn_bl, isNon_non, isNon_int, isNon_str, isNon_lst, isNon_tup, isNon_frl, isNon_obj, isNon_bl, ix_tup, ix_v, ix_f, ix_b, tg_nm, tg_t2, tg_t3, asg_nm, asg_t2, asg_t3, nm_val, nm_fresh, nm_stt, sl_val, sl_brw, sl_stt, ty_int, ty_tt, ty_tv, ty_lv, ty_tf, ty_lf, ty_tb, ty_lb, ty_lt, slc_tup, slc_v, slc_f, slc_b, slc_str, ti, li, p2, it_sq, len_sq, rng_1, rng_2, it_sqR, len_sqR, rd_sqR, as_sqR, cut_take, costE]
  rw [ap, enumD_map]
  refine ⟨Nat.le_of_lt (Nat.lt_of_le_of_lt (m := 120) (by omega) (size_big (by omega))), by simp only [List.length_map, enA_length]; exact Nat.lt_of_le_of_lt ll (size_big (by omega)), ?_⟩
  refine walk_map (g := fun q : Int × (Int × Int) => .tup [.int q.1, p2 q.2]) (f := fun q => p2 (q.2.1 + l * q.1, q.2.2 + l * q.1)) (fun q hq acc k hk' => ?_) ?_
  · simp [wS, wE, wEs, wT, wC, wO, wIt, wipeD, frzD, Cst.d, asAll, startD, wEq_int, wEq_str, wEq_bl, wBi_len, wBi_abs, wBi_min2, wBi_max2, see_val, see_fresh, see_brw, dat_val, dat_fresh, out_val, out_fresh, out_stt, tru_non, tru_bl, tru_int, tru_lst, tru_tup, tru_fresh, tru_brw, as_vv, as_vf, as_s, as_av, as_af, as_ab, as_bf, as_bb, as_bl, lv_lst, lv_fresh, lv_brw, int_int, len_lst, len_tup, len_frl, len_fresh, len_brw, rd_val, rd_own, rd_bor, rd_stt, it_lst, it_tup, it_frl, it_fresh, it_brw, bin_add, bin_sub, bin_mul, bin_fdiv, bin_mod, bin_pow, bin_str, cat_vv, cat_vf, cat_vb, rep_v, cat_fv, cat_ff, cat_fb, rep_f, cat_bv, cat_bf, cat_bb, rep_b, cmp_eq_vv, cmp_eq_fv, cmp_eq_vf, cmp_eq_ff, cmp_eq_fb, cmp_eq_bv, cmp_eq_vb, cmp_eq_bf, cmp_eq_bb, cmp_ne_vv, cmp_ne_fv, cmp_ne_vf, cmp_ne_ff, cmp_ne_fb, cmp_ne_bv, cmp_ne_vb, cmp_ne_bf, cmp_ne_bb, cmp_lt, cmp_le, cmp_gt, cmp_ge, cmp_is_non, cmp_isn_non, cmp_is_bl, cmp_isn_bl, isNon_non, isNon_int, isNon_str, isNon_lst, isNon_tup, isNon_frl, isNon_obj, isNon_bl, ix_tup, ix_v, ix_f, ix_b, tg_nm, tg_t2, tg_t3, asg_nm, asg_t2, asg_t3, nm_val, nm_fresh, nm_stt, sl_val, sl_brw, sl_stt, ty_int, ty_tt, ty_tv, ty_lv, ty_tf, ty_lf, ty_tb, ty_lb, ty_lt, slc_tup, slc_v, slc_f, slc_b, slc_str, ti, li, p2, it_sq, len_sq, rng_1, rng_2, it_sqR, len_sqR, rd_sqR, as_sqR, z2]
    first
      | exact hk'
      | exact ⟨.inl ⟨by omega, by omega⟩, hk'⟩
      | exact ⟨.inl ⟨by omega, by omega⟩, .inl ⟨by omega, by omega⟩, hk'⟩
  · have := l10 (sc := sc) (X := X) K hl hl2 R0 (s2 := s2) (s4 := .val (.lst (rs.map p2))) (s5 := s5) (s6 := s6) (s8 := s8) (s9 := s9) (s12 := s12) (s13 := s13) (s14 := s14) (W := W) (hk _)
    simpa [movedR, Function.comp_def, wS, wE, wEs, wT, wC, wO, wIt, wipeD, frzD, Cst.d, asAll, startD, wEq_int, wEq_str, wEq_bl, wBi_len, wBi_abs, wBi_min2, wBi_max2, see_val, see_fresh, see_brw, dat_val, dat_fresh, out_val, out_fresh, out_stt, tru_non, tru_bl, tru_int, tru_lst, tru_tup, tru_fresh, tru_brw, as_vv, as_vf, as_s, as_av, as_af, as_ab, as_bf, as_bb, as_bl, lv_lst, lv_fresh, lv_brw, int_int, len_lst, len_tup, len_frl, len_fresh, len_brw, rd_val, rd_own, rd_bor, rd_stt, it_lst, it_tup, it_frl, it_fresh, it_brw, bin_add, bin_sub, bin_mul, bin_fdiv, bin_mod, bin_pow, bin_str, cat_vv, cat_vf, cat_vb, rep_v, cat_fv, cat_ff, cat_fb, rep_f, cat_bv, cat_bf, cat_bb, rep_b, cmp_eq_vv, cmp_eq_fv, cmp_eq_vf, cmp_eq_ff, cmp_eq_fb, cmp_eq_bv, cmp_eq_vb, cmp_eq_bf, cmp_eq_bb, cmp_ne_vv, cmp_ne_fv, cmp_ne_vf, cmp_ne_ff, cmp_ne_fb, cmp_ne_bv, cmp_ne_vb, cmp_ne_bf, cmp_ne_bb, cmp_lt, cmp_le, cmp_gt, cmp_ge, cmp_is_non, cmp_isn_non, cmp_is_bl, cmp_isn_bl, isNon_non, isNon_int, isNon_str, isNon_lst, isNon_tup, isNon_frl, isNon_obj, isNon_bl, ix_tup, ix_v, ix_f, ix_b, tg_nm, tg_t2, tg_t3, asg_nm, asg_t2, asg_t3, nm_val, nm_fresh, nm_stt, sl_val, sl_brw, sl_stt, ty_int, ty_tt, ty_tv, ty_lv, ty_tf, ty_lf, ty_tb, ty_lb, ty_lt, slc_tup, slc_v, slc_f, slc_b, slc_str, ti, li, p2, it_sq, len_sq, rng_1, rng_2, it_sqR, len_sqR, rd_sqR, as_sqR] using this
/-- the numbers in between -/
theorem l12 (K : Kn C) {l : Nat} {rs : List (Int × Int)} (hl : 1 ≤ l) (hl2 : l ≤ 60) (R0 : SomeRides l rs) {s2 s5 s6 s7 s8 s9 s12 s13 s14 : Sl} {W : WD} (hbc : W.ct = W.nx)
    (hk : ∀ s4 s6 s7 s8 s9 s12, W.nx [.val sc, .stt, s2, .val (.int l), s4, s5, s6, s7, s8, s9, .val (dailyD (endsOf l rs)), .val (li (endsOf l rs)), s12, s13, s14]) :
    wS C ir_l_12 [.val sc, .stt, s2, .val (.int l), .val (.lst (rs.map p2)), s5, s6, s7, s8, s9, .val (dailyD (endsOf l rs)), .val (li (endsOf l rs)), s12, s13, s14] W X := by
  have g : Good (endsOf l rs) := good_ends hl hl2 R0.ne R0.up
  have gl : (endsOf l rs).length = l := endsOf_length _ _
  have hb : ∀ n : Int, 0 ≤ n → n < (endsOf l rs).length → ledOn (endsOf l rs) n ≤ 1000 := by
    intro n n1 n2
    rw [gl] at n2
    rw [ledOn_ends hl R0.ne]
    obtain ⟨⟨p, hp, e⟩, _⟩ := mn_map (f := fun p : Int × Int => p.2 - l * ((p.1 - n) / l)) R0.ne
    unfold ridesG
    rw [e]
    have h1 := R0.far p hp
    have h2 := Int.lt_mul_ediv_self_add (x := p.1 - n) (k := (l : Int)) (by omega)
    omega
  simp [ir_l_12, wS, wE, wEs, wT, wC, wO, wIt, wipeD, frzD, Cst.d, asAll, startD, wEq_int, wEq_str, wEq_bl, wBi_len, wBi_abs, wBi_min2, wBi_max2, see_val, see_fresh, see_brw, dat_val, dat_fresh, out_val, out_fresh, out_stt, tru_non, tru_bl, tru_int, tru_lst, tru_tup, tru_fresh, tru_brw, as_vv, as_vf, as_s, as_av, as_af, as_ab, as_bf, as_bb, as_bl, lv_lst, lv_fresh, lv_brw, int_int, len_lst, len_tup, len_frl, len_fresh, len_brw, rd_val, rd_own, rd_bor, rd_stt, it_lst, it_tup, it_frl, it_fresh, it_brw, bin_add, bin_sub, bin_mul, bin_fdiv, bin_mod, bin_pow, bin_str, cat_vv, cat_vf, cat_vb, rep_v, cat_fv, cat_ff, cat_fb, rep_f, cat_bv, cat_bf, cat_bb, rep_b, cmp_eq_vv, cmp_eq_fv, cmp_eq_vf, cmp_eq_ff, cmp_eq_fb, cmp_eq_bv, cmp_eq_vb, cmp_eq_bf, cmp_eq_bb, cmp_ne_vv, cmp_ne_fv, cmp_ne_vf, cmp_ne_ff, cmp_ne_fb, cmp_ne_bv, cmp_ne_vb, cmp_ne_bf, cmp_ne_bb, cmp_lt, cmp_le, cmp_gt, cmp_ge, cmp_is_non, cmp_isn_non, cmp_is_bl, cmp_isn_bl, isNon_non, isNon_int, isNon_str, isNon_lst, isNon_tup, isNon_frl, isNon_obj, isNon_bl, ix_tup, ix_v, ix_f, ix_b, tg_nm, tg_t2, tg_t3, asg_nm, asg_t2, asg_t3, nm_val, nm_fresh, nm_stt, sl_val, sl_brw, sl_stt, ty_int, ty_tt, ty_tv, ty_lv, ty_tf, ty_lf, ty_tb, ty_lb, ty_lt, slc_tup, slc_v, slc_f, slc_b, slc_str, ti, li, p2, it_sq, len_sq, rng_1, rng_2, it_sqR, len_sqR, rd_sqR, as_sqR]
  refine ⟨fun _ => by rw [rg_length]; omega, ?_⟩
  refine forD_of (fun xs δ => ∃ (ys : List Int) (a b : Sl), xs = ys.map D.int ∧ δ = [.val sc, .stt, s2, .val (.int l), .val (.lst (rs.map p2)), s5, a, s7, s8, s9, .val (dailyD (endsOf l rs)), .val (li (endsOf l rs)), b, s13, s14]) ?_ ?_ ⟨rg 8, s6, s12, rfl, rfl⟩
  · rintro δ ⟨ys, a, b, _, rfl⟩
    exact l11 K hl hl2 R0 fun _ _ _ _ => hk _ _ _ _ _ _
  · rintro x xs δ k ⟨ys, a, b, e, rfl⟩ hk'
    cases ys with
    | nil => cases e
    | cons y ys =>
      simp only [List.map_cons, List.cons.injEq] at e
      obtain ⟨rfl, e⟩ := e
      simp [wS, wE, wEs, wT, wC, wO, wIt, wipeD, frzD, Cst.d, asAll, startD, wEq_int, wEq_str, wEq_bl, wBi_len, wBi_abs, wBi_min2, wBi_max2, see_val, see_fresh, see_brw, dat_val, dat_fresh, out_val, out_fresh, out_stt, tru_non, tru_bl, tru_int, tru_lst, tru_tup, tru_fresh, tru_brw, as_vv, as_vf, as_s, as_av, as_af, as_ab, as_bf, as_bb, as_bl, lv_lst, lv_fresh, lv_brw, int_int, len_lst, len_tup, len_frl, len_fresh, len_brw, rd_val, rd_own, rd_bor, rd_stt, it_lst, it_tup, it_frl, it_fresh, it_brw, bin_add, bin_sub, bin_mul, bin_fdiv, bin_mod, bin_pow, bin_str, cat_vv, cat_vf, cat_vb, rep_v, cat_fv, cat_ff, cat_fb, rep_f, cat_bv, cat_bf, cat_bb, rep_b, cmp_eq_vv, cmp_eq_fv, cmp_eq_vf, cmp_eq_ff, cmp_eq_fb, cmp_eq_bv, cmp_eq_vb, cmp_eq_bf, cmp_eq_bb, cmp_ne_vv, cmp_ne_fv, cmp_ne_vf, cmp_ne_ff, cmp_ne_fb, cmp_ne_bv, cmp_ne_vb, cmp_ne_bf, cmp_ne_bb, cmp_lt, cmp_le, cmp_gt, cmp_ge, cmp_is_non, cmp_isn_non, cmp_is_bl, cmp_isn_bl, isNon_non, isNon_int, isNon_str, isNon_lst, isNon_tup, isNon_frl, isNon_obj, isNon_bl, ix_tup, ix_v, ix_f, ix_b, tg_nm, tg_t2, tg_t3, asg_nm, asg_t2, asg_t3, nm_val, nm_fresh, nm_stt, sl_val, sl_brw, sl_stt, ty_int, ty_tt, ty_tv, ty_lv, ty_tf, ty_lf, ty_tb, ty_lb, ty_lt, slc_tup, slc_v, slc_f, slc_b, slc_str, ti, li, p2, it_sq, len_sq, rng_1, rng_2, it_sqR, len_sqR, rd_sqR, as_sqR]
      exact l4 K g gl hb fun s12 => hk' _ ⟨ys, _, _, e, rfl⟩
theorem l13 (K : Kn C) {l : Nat} {rs : List (Int × Int)} (hl : 1 ≤ l) (hl2 : l ≤ 60) (R0 : SomeRides l rs) {s2 s5 s6 s7 s8 s9 s12 s13 s14 : Sl} {W : WD} (hbc : W.ct = W.nx)
    (hk : ∀ s4 s6 s7 s8 s9 s12, W.nx [.val sc, .stt, s2, .val (.int l), s4, s5, s6, s7, s8, s9, .val (dailyD (endsOf l rs)), .val (li (endsOf l rs)), s12, s13, s14]) :
    wS C ir_l_13 [.val sc, .stt, s2, .val (.int l), .val (.lst (rs.map p2)), s5, s6, s7, s8, s9, .val (dailyD (endsOf l rs)), .val (li (endsOf l rs)), s12, s13, s14] W X := by
  have g : Good (endsOf l rs) := good_ends hl hl2 R0.ne R0.up
  have gl : (endsOf l rs).length = l := endsOf_length _ _
  have z2 : (2 : Nat) ≤ sizeLine := by rw [sizeLine_eq]; decide
  simp [ir_l_13, ir_l_1, wS, wE, wEs, wT, wC, wO, wIt, wipeD, frzD, Cst.d, asAll, startD, wEq_int, wEq_str, wEq_bl, wBi_len, wBi_abs, wBi_min2, wBi_max2, see_val, see_fresh, see_brw, dat_val, dat_fresh, out_val, out_fresh, out_stt, tru_non, tru_bl, tru_int, tru_lst, tru_tup, tru_fresh, tru_brw, as_vv, as_vf, as_s, as_av, as_af, as_ab, as_bf, as_bb, as_bl, lv_lst, lv_fresh, lv_brw, int_int, len_lst, len_tup, len_frl, len_fresh, len_brw, rd_val, rd_own, rd_bor, rd_stt, it_lst, it_tup, it_frl, it_fresh, it_brw, bin_add, bin_sub, bin_mul, bin_fdiv, bin_mod, bin_pow, bin_str, cat_vv, cat_vf, cat_vb, rep_v, cat_fv, cat_ff, cat_fb, rep_f, cat_bv, cat_bf, cat_bb, rep_b, cmp_eq_vv, cmp_eq_fv, cmp_eq_vf, cmp_eq_ff, cmp_eq_fb, cmp_eq_bv, cmp_eq_vb, cmp_eq_bf, cmp_eq_bb, cmp_ne_vv, cmp_ne_fv, cmp_ne_vf, cmp_ne_ff, cmp_ne_fb, cmp_ne_bv, cmp_ne_vb, cmp_ne_bf, cmp_ne_bb, cmp_lt, cmp_le, cmp_gt, cmp_ge, cmp_is_non, cmp_isn_non, cmp_is_bl, cmp_isn_bl, isNon_non, isNon_int, isNon_str, isNon_lst, isNon_tup, isNon_frl, isNon_obj, isNon_bl, ix_tup, ix_v, ix_f, ix_b, tg_nm, tg_t2, tg_t3, asg_nm, asg_t2, asg_t3, nm_val, nm_fresh, nm_stt, sl_val, sl_brw, sl_stt, ty_int, ty_tt, ty_tv, ty_lv, ty_tf, ty_lf, ty_tb, ty_lb, ty_lt, slc_tup, slc_v, slc_f, slc_b, slc_str, ti, li, p2, it_sq, len_sq, rng_1, rng_2, it_sqR, len_sqR, rd_sqR, as_sqR, K.is.1, K.need.1, (show C.pr "Daily" "rides" = some fsDRides from K.ri), (show C.pr "Daily" "length" = some fsDLen from K.le), dailyD]
  refine wcall_of (α := List Int) (endsOf l rs) rfl g.small ?_
  rintro r rfl
  simp [wS, wE, wEs, wT, wC, wO, wIt, wipeD, frzD, Cst.d, asAll, startD, wEq_int, wEq_str, wEq_bl, wBi_len, wBi_abs, wBi_min2, wBi_max2, see_val, see_fresh, see_brw, dat_val, dat_fresh, out_val, out_fresh, out_stt, tru_non, tru_bl, tru_int, tru_lst, tru_tup, tru_fresh, tru_brw, as_vv, as_vf, as_s, as_av, as_af, as_ab, as_bf, as_bb, as_bl, lv_lst, lv_fresh, lv_brw, int_int, len_lst, len_tup, len_frl, len_fresh, len_brw, rd_val, rd_own, rd_bor, rd_stt, it_lst, it_tup, it_frl, it_fresh, it_brw, bin_add, bin_sub, bin_mul, bin_fdiv, bin_mod, bin_pow, bin_str, cat_vv, cat_vf, cat_vb, rep_v, cat_fv, cat_ff, cat_fb, rep_f, cat_bv, cat_bf, cat_bb, rep_b, cmp_eq_vv, cmp_eq_fv, cmp_eq_vf, cmp_eq_ff, cmp_eq_fb, cmp_eq_bv, cmp_eq_vb, cmp_eq_bf, cmp_eq_bb, cmp_ne_vv, cmp_ne_fv, cmp_ne_vf, cmp_ne_ff, cmp_ne_fb, cmp_ne_bv, cmp_ne_vb, cmp_ne_bf, cmp_ne_bb, cmp_lt, cmp_le, cmp_gt, cmp_ge, cmp_is_non, cmp_isn_non, cmp_is_bl, cmp_isn_bl, isNon_non, isNon_int, isNon_str, isNon_lst, isNon_tup, isNon_frl, isNon_obj, isNon_bl, ix_tup, ix_v, ix_f, ix_b, tg_nm, tg_t2, tg_t3, asg_nm, asg_t2, asg_t3, nm_val, nm_fresh, nm_stt, sl_val, sl_brw, sl_stt, ty_int, ty_tt, ty_tv, ty_lv, ty_tf, ty_lf, ty_tb, ty_lb, ty_lt, slc_tup, slc_v, slc_f, slc_b, slc_str, ti, li, p2, it_sq, len_sq, rng_1, rng_2, it_sqR, len_sqR, rd_sqR, as_sqR]
  refine d_rides g.small ?_
  simp [wS, wE, wEs, wT, wC, wO, wIt, wipeD, frzD, Cst.d, asAll, startD, wEq_int, wEq_str, wEq_bl, wBi_len, wBi_abs, wBi_min2, wBi_max2, see_val, see_fresh, see_brw, dat_val, dat_fresh, out_val, out_fresh, out_stt, tru_non, tru_bl, tru_int, tru_lst, tru_tup, tru_fresh, tru_brw, as_vv, as_vf, as_s, as_av, as_af, as_ab, as_bf, as_bb, as_bl, lv_lst, lv_fresh, lv_brw, int_int, len_lst, len_tup, len_frl, len_fresh, len_brw, rd_val, rd_own, rd_bor, rd_stt, it_lst, it_tup, it_frl, it_fresh, it_brw, bin_add, bin_sub, bin_mul, bin_fdiv, bin_mod, bin_pow, bin_str, cat_vv, cat_vf, cat_vb, rep_v, cat_fv, cat_ff, cat_fb, rep_f, cat_bv, cat_bf, cat_bb, rep_b, cmp_eq_vv, cmp_eq_fv, cmp_eq_vf, cmp_eq_ff, cmp_eq_fb, cmp_eq_bv, cmp_eq_vb, cmp_eq_bf, cmp_eq_bb, cmp_ne_vv, cmp_ne_fv, cmp_ne_vf, cmp_ne_ff, cmp_ne_fb, cmp_ne_bv, cmp_ne_vb, cmp_ne_bf, cmp_ne_bb, cmp_lt, cmp_le, cmp_gt, cmp_ge, cmp_is_non, cmp_isn_non, cmp_is_bl, cmp_isn_bl, isNon_non, isNon_int, isNon_str, isNon_lst, isNon_tup, isNon_frl, isNon_obj, isNon_bl, ix_tup, ix_v, ix_f, ix_b, tg_nm, tg_t2, tg_t3, asg_nm, asg_t2, asg_t3, nm_val, nm_fresh, nm_stt, sl_val, sl_brw, sl_stt, ty_int, ty_tt, ty_tv, ty_lv, ty_tf, ty_lf, ty_tb, ty_lb, ty_lt, slc_tup, slc_v, slc_f, slc_b, slc_str, ti, li, p2, it_sq, len_sq, rng_1, rng_2, it_sqR, len_sqR, rd_sqR, as_sqR, z2]
  refine wcall_of (α := Bool × List Int) (false, endsOf l rs) rfl g.small ?_
  rintro r rfl
  simp [wS, wE, wEs, wT, wC, wO, wIt, wipeD, frzD, Cst.d, asAll, startD, wEq_int, wEq_str, wEq_bl, wBi_len, wBi_abs, wBi_min2, wBi_max2, see_val, see_fresh, see_brw, dat_val, dat_fresh, out_val, out_fresh, out_stt, tru_non, tru_bl, tru_int, tru_lst, tru_tup, tru_fresh, tru_brw, as_vv, as_vf, as_s, as_av, as_af, as_ab, as_bf, as_bb, as_bl, lv_lst, lv_fresh, lv_brw, int_int, len_lst, len_tup, len_frl, len_fresh, len_brw, rd_val, rd_own, rd_bor, rd_stt, it_lst, it_tup, it_frl, it_fresh, it_brw, bin_add, bin_sub, bin_mul, bin_fdiv, bin_mod, bin_pow, bin_str, cat_vv, cat_vf, cat_vb, rep_v, cat_fv, cat_ff, cat_fb, rep_f, cat_bv, cat_bf, cat_bb, rep_b, cmp_eq_vv, cmp_eq_fv, cmp_eq_vf, cmp_eq_ff, cmp_eq_fb, cmp_eq_bv, cmp_eq_vb, cmp_eq_bf, cmp_eq_bb, cmp_ne_vv, cmp_ne_fv, cmp_ne_vf, cmp_ne_ff, cmp_ne_fb, cmp_ne_bv, cmp_ne_vb, cmp_ne_bf, cmp_ne_bb, cmp_lt, cmp_le, cmp_gt, cmp_ge, cmp_is_non, cmp_isn_non, cmp_is_bl, cmp_isn_bl, isNon_non, isNon_int, isNon_str, isNon_lst, isNon_tup, isNon_frl, isNon_obj, isNon_bl, ix_tup, ix_v, ix_f, ix_b, tg_nm, tg_t2, tg_t3, asg_nm, asg_t2, asg_t3, nm_val, nm_fresh, nm_stt, sl_val, sl_brw, sl_stt, ty_int, ty_tt, ty_tv, ty_lv, ty_tf, ty_lf, ty_tb, ty_lb, ty_lt, slc_tup, slc_v, slc_f, slc_b, slc_str, ti, li, p2, it_sq, len_sq, rng_1, rng_2, it_sqR, len_sqR, rd_sqR, as_sqR, z2, gl]
  have nl : (needed (endsOf l rs)).length ≤ 60 := Nat.le_trans (needed_len g.lo) g.hi
  have fr : Fine (.tup ((needed (endsOf l rs)).map p2)) 2 180 := by
    refine (Fine.tup (n := 1) (b := 2) (fun d hd => ?_) (by rw [List.length_map]; omega)).mono (Nat.le_refl _) (by rw [List.length_map]; omega)
    obtain ⟨p, hp, rfl⟩ := List.mem_map.mp hd
    obtain ⟨q1, q2, q3⟩ := mem_en2 (List.mem_filter.mp hp).1
    rw [gl] at q2
    have u := g.up p.1
    have b : ledOn (endsOf l rs) p.1 ≤ 1000 := by
      rw [ledOn_ends hl R0.ne]
      obtain ⟨⟨w, hw, e⟩, _⟩ := mn_map (f := fun w : Int × Int => w.2 - l * ((w.1 - p.1) / l)) R0.ne
      unfold ridesG
      rw [e]
      have h1 := R0.far w hw
      have h2 := Int.lt_mul_ediv_self_add (x := w.1 - p.1) (k := (l : Int)) (by omega)
      omega
    refine Fine.p2 (big (by omega) (by omega)) (big ?_ ?_)
    · rw [q3]; omega
    · rw [q3]; omega
  refine is_fine rfl (Fine.two (n := 2) (b := 180) (Fine.int (big (by omega) (by omega))) fr) (by omega) (by omega) ?_
  simp [wS, wE, wEs, wT, wC, wO, wIt, wipeD, frzD, Cst.d, asAll, startD, wEq_int, wEq_str, wEq_bl, wBi_len, wBi_abs, wBi_min2, wBi_max2, see_val, see_fresh, see_brw, dat_val, dat_fresh, out_val, out_fresh, out_stt, tru_non, tru_bl, tru_int, tru_lst, tru_tup, tru_fresh, tru_brw, as_vv, as_vf, as_s, as_av, as_af, as_ab, as_bf, as_bb, as_bl, lv_lst, lv_fresh, lv_brw, int_int, len_lst, len_tup, len_frl, len_fresh, len_brw, rd_val, rd_own, rd_bor, rd_stt, it_lst, it_tup, it_frl, it_fresh, it_brw, bin_add, bin_sub, bin_mul, bin_fdiv, bin_mod, bin_pow, bin_str, cat_vv, cat_vf, cat_vb, rep_v, cat_fv, cat_ff, cat_fb, rep_f, cat_bv, cat_bf, cat_bb, rep_b, cmp_eq_vv, cmp_eq_fv, cmp_eq_vf, cmp_eq_ff, cmp_eq_fb, cmp_eq_bv, cmp_eq_vb, cmp_eq_bf, cmp_eq_bb, cmp_ne_vv, cmp_ne_fv, cmp_ne_vf, cmp_ne_ff, cmp_ne_fb, cmp_ne_bv, cmp_ne_vb, cmp_ne_bf, cmp_ne_bb, cmp_lt, cmp_le, cmp_gt, cmp_ge, cmp_is_non, cmp_isn_non, cmp_is_bl, cmp_isn_bl, isNon_non, isNon_int, isNon_str, isNon_lst, isNon_tup, isNon_frl, isNon_obj, isNon_bl, ix_tup, ix_v, ix_f, ix_b, tg_nm, tg_t2, tg_t3, asg_nm, asg_t2, asg_t3, nm_val, nm_fresh, nm_stt, sl_val, sl_brw, sl_stt, ty_int, ty_tt, ty_tv, ty_lv, ty_tf, ty_lf, ty_tb, ty_lb, ty_lt, slc_tup, slc_v, slc_f, slc_b, slc_str, ti, li, p2, it_sq, len_sq, rng_1, rng_2, it_sqR, len_sqR, rd_sqR, as_sqR]
  have := l12 (sc := sc) (X := X) K hl hl2 R0 (s2 := s2) (s5 := s5) (s6 := s6) (s7 := s7) (s8 := s8) (s9 := s9) (s12 := s12) (s13 := s13) (s14 := s14) (W := W) hbc hk
  simpa [wS, wE, wEs, wT, wC, wO, wIt, wipeD, frzD, Cst.d, asAll, startD, wEq_int, wEq_str, wEq_bl, wBi_len, wBi_abs, wBi_min2, wBi_max2, see_val, see_fresh, see_brw, dat_val, dat_fresh, out_val, out_fresh, out_stt, tru_non, tru_bl, tru_int, tru_lst, tru_tup, tru_fresh, tru_brw, as_vv, as_vf, as_s, as_av, as_af, as_ab, as_bf, as_bb, as_bl, lv_lst, lv_fresh, lv_brw, int_int, len_lst, len_tup, len_frl, len_fresh, len_brw, rd_val, rd_own, rd_bor, rd_stt, it_lst, it_tup, it_frl, it_fresh, it_brw, bin_add, bin_sub, bin_mul, bin_fdiv, bin_mod, bin_pow, bin_str, cat_vv, cat_vf, cat_vb, rep_v, cat_fv, cat_ff, cat_fb, rep_f, cat_bv, cat_bf, cat_bb, rep_b, cmp_eq_vv, cmp_eq_fv, cmp_eq_vf, cmp_eq_ff, cmp_eq_fb, cmp_eq_bv, cmp_eq_vb, cmp_eq_bf, cmp_eq_bb, cmp_ne_vv, cmp_ne_fv, cmp_ne_vf, cmp_ne_ff, cmp_ne_fb, cmp_ne_bv, cmp_ne_vb, cmp_ne_bf, cmp_ne_bb, cmp_lt, cmp_le, cmp_gt, cmp_ge, cmp_is_non, cmp_isn_non, cmp_is_bl, cmp_isn_bl, isNon_non, isNon_int, isNon_str, isNon_lst, isNon_tup, isNon_frl, isNon_obj, isNon_bl, ix_tup, ix_v, ix_f, ix_b, tg_nm, tg_t2, tg_t3, asg_nm, asg_t2, asg_t3, nm_val, nm_fresh, nm_stt, sl_val, sl_brw, sl_stt, ty_int, ty_tt, ty_tv, ty_lv, ty_tf, ty_lf, ty_tb, ty_lb, ty_lt, slc_tup, slc_v, slc_f, slc_b, slc_str, ti, li, p2, it_sq, len_sq, rng_1, rng_2, it_sqR, len_sqR, rd_sqR, as_sqR, dailyD] using this
theorem l18 (K : Kn C) {t : List Sl} (ht : t.length = 13) {k bk : List Sl → Prop} (hk : ∀ t : List Sl, t.length = 13 → k (.val sc :: .stt :: t)) : wS C ir_l_18 (.val sc :: .stt :: t) (WB k bk) X := by
  obtain ⟨s2, s3, s4, s5, s6, s7, s8, s9, s10, s11, s12, s13, s14, rfl⟩ := ex13 ht
  simp [ir_l_18, wS, wE, wEs, wT, wC, wO, wIt, wipeD, frzD, Cst.d, asAll, startD, wEq_int, wEq_str, wEq_bl, wBi_len, wBi_abs, wBi_min2, wBi_max2, see_val, see_fresh, see_brw, dat_val, dat_fresh, out_val, out_fresh, out_stt, tru_non, tru_bl, tru_int, tru_lst, tru_tup, tru_fresh, tru_brw, as_vv, as_vf, as_s, as_av, as_af, as_ab, as_bf, as_bb, as_bl, lv_lst, lv_fresh, lv_brw, int_int, len_lst, len_tup, len_frl, len_fresh, len_brw, rd_val, rd_own, rd_bor, rd_stt, it_lst, it_tup, it_frl, it_fresh, it_brw, bin_add, bin_sub, bin_mul, bin_fdiv, bin_mod, bin_pow, bin_str, cat_vv, cat_vf, cat_vb, rep_v, cat_fv, cat_ff, cat_fb, rep_f, cat_bv, cat_bf, cat_bb, rep_b, cmp_eq_vv, cmp_eq_fv, cmp_eq_vf, cmp_eq_ff, cmp_eq_fb, cmp_eq_bv, cmp_eq_vb, cmp_eq_bf, cmp_eq_bb, cmp_ne_vv, cmp_ne_fv, cmp_ne_vf, cmp_ne_ff, cmp_ne_fb, cmp_ne_bv, cmp_ne_vb, cmp_ne_bf, cmp_ne_bb, cmp_lt, cmp_le, cmp_gt, cmp_ge, cmp_is_non, cmp_isn_non, cmp_is_bl, cmp_isn_bl, isNon_non, isNon_int, isNon_str, isNon_lst, isNon_tup, isNon_frl, isNon_obj, isNon_bl, ix_tup, ix_v, ix_f, ix_b, tg_nm, tg_t2, tg_t3, asg_nm, asg_t2, asg_t3, nm_val, nm_fresh, nm_stt, sl_val, sl_brw, sl_stt, ty_int, ty_tt, ty_tv, ty_lv, ty_tf, ty_lf, ty_tb, ty_lb, ty_lt, slc_tup, slc_v, slc_f, slc_b, slc_str, ti, li, p2, it_sq, len_sq, rng_1, rng_2, it_sqR, len_sqR, rd_sqR, as_sqR, K.len.1]
  refine wcall_of (α := Unit) () rfl trivial ?_
  rintro r ⟨l, hl, hl2, rfl⟩
  simp [ir_l_17, wS, wE, wEs, wT, wC, wO, wIt, wipeD, frzD, Cst.d, asAll, startD, wEq_int, wEq_str, wEq_bl, wBi_len, wBi_abs, wBi_min2, wBi_max2, see_val, see_fresh, see_brw, dat_val, dat_fresh, out_val, out_fresh, out_stt, tru_non, tru_bl, tru_int, tru_lst, tru_tup, tru_fresh, tru_brw, as_vv, as_vf, as_s, as_av, as_af, as_ab, as_bf, as_bb, as_bl, lv_lst, lv_fresh, lv_brw, int_int, len_lst, len_tup, len_frl, len_fresh, len_brw, rd_val, rd_own, rd_bor, rd_stt, it_lst, it_tup, it_frl, it_fresh, it_brw, bin_add, bin_sub, bin_mul, bin_fdiv, bin_mod, bin_pow, bin_str, cat_vv, cat_vf, cat_vb, rep_v, cat_fv, cat_ff, cat_fb, rep_f, cat_bv, cat_bf, cat_bb, rep_b, cmp_eq_vv, cmp_eq_fv, cmp_eq_vf, cmp_eq_ff, cmp_eq_fb, cmp_eq_bv, cmp_eq_vb, cmp_eq_bf, cmp_eq_bb, cmp_ne_vv, cmp_ne_fv, cmp_ne_vf, cmp_ne_ff, cmp_ne_fb, cmp_ne_bv, cmp_ne_vb, cmp_ne_bf, cmp_ne_bb, cmp_lt, cmp_le, cmp_gt, cmp_ge, cmp_is_non, cmp_isn_non, cmp_is_bl, cmp_isn_bl, isNon_non, isNon_int, isNon_str, isNon_lst, isNon_tup, isNon_frl, isNon_obj, isNon_bl, ix_tup, ix_v, ix_f, ix_b, tg_nm, tg_t2, tg_t3, asg_nm, asg_t2, asg_t3, nm_val, nm_fresh, nm_stt, sl_val, sl_brw, sl_stt, ty_int, ty_tt, ty_tv, ty_lv, ty_tf, ty_lf, ty_tb, ty_lb, ty_lt, slc_tup, slc_v, slc_f, slc_b, slc_str, ti, li, p2, it_sq, len_sq, rng_1, rng_2, it_sqR, len_sqR, rd_sqR, as_sqR, K.rid.1]
  refine wcall_of (α := Nat) l rfl ⟨hl, hl2⟩ ?_
  rintro r ⟨rs, R0, rfl⟩
  simp [ir_l_16, ir_l_15, wS, wE, wEs, wT, wC, wO, wIt, wipeD, frzD, Cst.d, asAll, startD, wEq_int, wEq_str, wEq_bl, wBi_len, wBi_abs, wBi_min2, wBi_max2, see_val, see_fresh, see_brw, dat_val, dat_fresh, out_val, out_fresh, out_stt, tru_non, tru_bl, tru_int, tru_lst, tru_tup, tru_fresh, tru_brw, as_vv, as_vf, as_s, as_av, as_af, as_ab, as_bf, as_bb, as_bl, lv_lst, lv_fresh, lv_brw, int_int, len_lst, len_tup, len_frl, len_fresh, len_brw, rd_val, rd_own, rd_bor, rd_stt, it_lst, it_tup, it_frl, it_fresh, it_brw, bin_add, bin_sub, bin_mul, bin_fdiv, bin_mod, bin_pow, bin_str, cat_vv, cat_vf, cat_vb, rep_v, cat_fv, cat_ff, cat_fb, rep_f, cat_bv, cat_bf, cat_bb, rep_b, cmp_eq_vv, cmp_eq_fv, cmp_eq_vf, cmp_eq_ff, cmp_eq_fb, cmp_eq_bv, cmp_eq_vb, cmp_eq_bf, cmp_eq_bb, cmp_ne_vv, cmp_ne_fv, cmp_ne_vf, cmp_ne_ff, cmp_ne_fb, cmp_ne_bv, cmp_ne_vb, cmp_ne_bf, cmp_ne_bb, cmp_lt, cmp_le, cmp_gt, cmp_ge, cmp_is_non, cmp_isn_non, cmp_is_bl, cmp_isn_bl, isNon_non, isNon_int, isNon_str, isNon_lst, isNon_tup, isNon_frl, isNon_obj, isNon_bl, ix_tup, ix_v, ix_f, ix_b, tg_nm, tg_t2, tg_t3, asg_nm, asg_t2, asg_t3, nm_val, nm_fresh, nm_stt, sl_val, sl_brw, sl_stt, ty_int, ty_tt, ty_tv, ty_lv, ty_tf, ty_lf, ty_tb, ty_lb, ty_lt, slc_tup, slc_v, slc_f, slc_b, slc_str, ti, li, p2, it_sq, len_sq, rng_1, rng_2, it_sqR, len_sqR, rd_sqR, as_sqR, K.day.1]
  refine day_call (k := .b) (by simp [wS, wE, wEs, wT, wC, wO, wIt, wipeD, frzD, Cst.d, asAll, startD, wEq_int, wEq_str, wEq_bl, wBi_len, wBi_abs, wBi_min2, wBi_max2, see_val, see_fresh, see_brw, dat_val, dat_fresh, out_val, out_fresh, out_stt, tru_non, tru_bl, tru_int, tru_lst, tru_tup, tru_fresh, tru_brw, as_vv, as_vf, as_s, as_av, as_af, as_ab, as_bf, as_bb, as_bl, lv_lst, lv_fresh, lv_brw, int_int, len_lst, len_tup, len_frl, len_fresh, len_brw, rd_val, rd_own, rd_bor, rd_stt, it_lst, it_tup, it_frl, it_fresh, it_brw, bin_add, bin_sub, bin_mul, bin_fdiv, bin_mod, bin_pow, bin_str, cat_vv, cat_vf, cat_vb, rep_v, cat_fv, cat_ff, cat_fb, rep_f, cat_bv, cat_bf, cat_bb, rep_b, cmp_eq_vv, cmp_eq_fv, cmp_eq_vf, cmp_eq_ff, cmp_eq_fb, cmp_eq_bv, cmp_eq_vb, cmp_eq_bf, cmp_eq_bb, cmp_ne_vv, cmp_ne_fv, cmp_ne_vf, cmp_ne_ff, cmp_ne_fb, cmp_ne_bv, cmp_ne_vb, cmp_ne_bf, cmp_ne_bb, cmp_lt, cmp_le, cmp_gt, cmp_ge, cmp_is_non, cmp_isn_non, cmp_is_bl, cmp_isn_bl, isNon_non, isNon_int, isNon_str, isNon_lst, isNon_tup, isNon_frl, isNon_obj, isNon_bl, ix_tup, ix_v, ix_f, ix_b, tg_nm, tg_t2, tg_t3, asg_nm, asg_t2, asg_t3, nm_val, nm_fresh, nm_stt, sl_val, sl_brw, sl_stt, ty_int, ty_tt, ty_tv, ty_lv, ty_tf, ty_lf, ty_tb, ty_lb, ty_lt, slc_tup, slc_v, slc_f, slc_b, slc_str, ti, li, p2, it_sq, len_sq, rng_1, rng_2, it_sqR, len_sqR, rd_sqR, as_sqR, sqR]) hl hl2 R0.ne R0.len R0.up ?_
  simp [wS, wE, wEs, wT, wC, wO, wIt, wipeD, frzD, Cst.d, asAll, startD, wEq_int, wEq_str, wEq_bl, wBi_len, wBi_abs, wBi_min2, wBi_max2, see_val, see_fresh, see_brw, dat_val, dat_fresh, out_val, out_fresh, out_stt, tru_non, tru_bl, tru_int, tru_lst, tru_tup, tru_fresh, tru_brw, as_vv, as_vf, as_s, as_av, as_af, as_ab, as_bf, as_bb, as_bl, lv_lst, lv_fresh, lv_brw, int_int, len_lst, len_tup, len_frl, len_fresh, len_brw, rd_val, rd_own, rd_bor, rd_stt, it_lst, it_tup, it_frl, it_fresh, it_brw, bin_add, bin_sub, bin_mul, bin_fdiv, bin_mod, bin_pow, bin_str, cat_vv, cat_vf, cat_vb, rep_v, cat_fv, cat_ff, cat_fb, rep_f, cat_bv, cat_bf, cat_bb, rep_b, cmp_eq_vv, cmp_eq_fv, cmp_eq_vf, cmp_eq_ff, cmp_eq_fb, cmp_eq_bv, cmp_eq_vb, cmp_eq_bf, cmp_eq_bb, cmp_ne_vv, cmp_ne_fv, cmp_ne_vf, cmp_ne_ff, cmp_ne_fb, cmp_ne_bv, cmp_ne_vb, cmp_ne_bf, cmp_ne_bb, cmp_lt, cmp_le, cmp_gt, cmp_ge, cmp_is_non, cmp_isn_non, cmp_is_bl, cmp_isn_bl, isNon_non, isNon_int, isNon_str, isNon_lst, isNon_tup, isNon_frl, isNon_obj, isNon_bl, ix_tup, ix_v, ix_f, ix_b, tg_nm, tg_t2, tg_t3, asg_nm, asg_t2, asg_t3, nm_val, nm_fresh, nm_stt, sl_val, sl_brw, sl_stt, ty_int, ty_tt, ty_tv, ty_lv, ty_tf, ty_lf, ty_tb, ty_lb, ty_lt, slc_tup, slc_v, slc_f, slc_b, slc_str, ti, li, p2, it_sq, len_sq, rng_1, rng_2, it_sqR, len_sqR, rd_sqR, as_sqR, K.map.1]
  refine wcall_of (α := Nat × Bool × List (Int × Int)) (l, false, rs) (by simp [wS, wE, wEs, wT, wC, wO, wIt, wipeD, frzD, Cst.d, asAll, startD, wEq_int, wEq_str, wEq_bl, wBi_len, wBi_abs, wBi_min2, wBi_max2, see_val, see_fresh, see_brw, dat_val, dat_fresh, out_val, out_fresh, out_stt, tru_non, tru_bl, tru_int, tru_lst, tru_tup, tru_fresh, tru_brw, as_vv, as_vf, as_s, as_av, as_af, as_ab, as_bf, as_bb, as_bl, lv_lst, lv_fresh, lv_brw, int_int, len_lst, len_tup, len_frl, len_fresh, len_brw, rd_val, rd_own, rd_bor, rd_stt, it_lst, it_tup, it_frl, it_fresh, it_brw, bin_add, bin_sub, bin_mul, bin_fdiv, bin_mod, bin_pow, bin_str, cat_vv, cat_vf, cat_vb, rep_v, cat_fv, cat_ff, cat_fb, rep_f, cat_bv, cat_bf, cat_bb, rep_b, cmp_eq_vv, cmp_eq_fv, cmp_eq_vf, cmp_eq_ff, cmp_eq_fb, cmp_eq_bv, cmp_eq_vb, cmp_eq_bf, cmp_eq_bb, cmp_ne_vv, cmp_ne_fv, cmp_ne_vf, cmp_ne_ff, cmp_ne_fb, cmp_ne_bv, cmp_ne_vb, cmp_ne_bf, cmp_ne_bb, cmp_lt, cmp_le, cmp_gt, cmp_ge, cmp_is_non, cmp_isn_non, cmp_is_bl, cmp_isn_bl, isNon_non, isNon_int, isNon_str, isNon_lst, isNon_tup, isNon_frl, isNon_obj, isNon_bl, ix_tup, ix_v, ix_f, ix_b, tg_nm, tg_t2, tg_t3, asg_nm, asg_t2, asg_t3, nm_val, nm_fresh, nm_stt, sl_val, sl_brw, sl_stt, ty_int, ty_tt, ty_tv, ty_lv, ty_tf, ty_lf, ty_tb, ty_lb, ty_lt, slc_tup, slc_v, slc_f, slc_b, slc_str, ti, li, p2, it_sq, len_sq, rng_1, rng_2, it_sqR, len_sqR, rd_sqR, as_sqR, sq]) ⟨hl, hl2, R0.ne, R0.len⟩ ?_
  rintro r rfl
  simp only [lawMap_eq hl]
  simp [ir_l_14, wS, wE, wEs, wT, wC, wO, wIt, wipeD, frzD, Cst.d, asAll, startD, wEq_int, wEq_str, wEq_bl, wBi_len, wBi_abs, wBi_min2, wBi_max2, see_val, see_fresh, see_brw, dat_val, dat_fresh, out_val, out_fresh, out_stt, tru_non, tru_bl, tru_int, tru_lst, tru_tup, tru_fresh, tru_brw, as_vv, as_vf, as_s, as_av, as_af, as_ab, as_bf, as_bb, as_bl, lv_lst, lv_fresh, lv_brw, int_int, len_lst, len_tup, len_frl, len_fresh, len_brw, rd_val, rd_own, rd_bor, rd_stt, it_lst, it_tup, it_frl, it_fresh, it_brw, bin_add, bin_sub, bin_mul, bin_fdiv, bin_mod, bin_pow, bin_str, cat_vv, cat_vf, cat_vb, rep_v, cat_fv, cat_ff, cat_fb, rep_f, cat_bv, cat_bf, cat_bb, rep_b, cmp_eq_vv, cmp_eq_fv, cmp_eq_vf, cmp_eq_ff, cmp_eq_fb, cmp_eq_bv, cmp_eq_vb, cmp_eq_bf, cmp_eq_bb, cmp_ne_vv, cmp_ne_fv, cmp_ne_vf, cmp_ne_ff, cmp_ne_fb, cmp_ne_bv, cmp_ne_vb, cmp_ne_bf, cmp_ne_bb, cmp_lt, cmp_le, cmp_gt, cmp_ge, cmp_is_non, cmp_isn_non, cmp_is_bl, cmp_isn_bl, isNon_non, isNon_int, isNon_str, isNon_lst, isNon_tup, isNon_frl, isNon_obj, isNon_bl, ix_tup, ix_v, ix_f, ix_b, tg_nm, tg_t2, tg_t3, asg_nm, asg_t2, asg_t3, nm_val, nm_fresh, nm_stt, sl_val, sl_brw, sl_stt, ty_int, ty_tt, ty_tv, ty_lv, ty_tf, ty_lf, ty_tb, ty_lb, ty_lt, slc_tup, slc_v, slc_f, slc_b, slc_str, ti, li, p2, it_sq, len_sq, rng_1, rng_2, it_sqR, len_sqR, rd_sqR, as_sqR]
  have := l13 (sc := sc) (X := X) K hl hl2 R0 (s2 := s2) (s5 := .val (.lst [])) (s6 := s6) (s7 := s7) (s8 := s8) (s9 := s9) (s12 := s12) (s13 := s13) (s14 := s14) (W := WB k bk) rfl fun _ _ _ _ _ _ => hk _ rfl
  simpa [wS, wE, wEs, wT, wC, wO, wIt, wipeD, frzD, Cst.d, asAll, startD, wEq_int, wEq_str, wEq_bl, wBi_len, wBi_abs, wBi_min2, wBi_max2, see_val, see_fresh, see_brw, dat_val, dat_fresh, out_val, out_fresh, out_stt, tru_non, tru_bl, tru_int, tru_lst, tru_tup, tru_fresh, tru_brw, as_vv, as_vf, as_s, as_av, as_af, as_ab, as_bf, as_bb, as_bl, lv_lst, lv_fresh, lv_brw, int_int, len_lst, len_tup, len_frl, len_fresh, len_brw, rd_val, rd_own, rd_bor, rd_stt, it_lst, it_tup, it_frl, it_fresh, it_brw, bin_add, bin_sub, bin_mul, bin_fdiv, bin_mod, bin_pow, bin_str, cat_vv, cat_vf, cat_vb, rep_v, cat_fv, cat_ff, cat_fb, rep_f, cat_bv, cat_bf, cat_bb, rep_b, cmp_eq_vv, cmp_eq_fv, cmp_eq_vf, cmp_eq_ff, cmp_eq_fb, cmp_eq_bv, cmp_eq_vb, cmp_eq_bf, cmp_eq_bb, cmp_ne_vv, cmp_ne_fv, cmp_ne_vf, cmp_ne_ff, cmp_ne_fb, cmp_ne_bv, cmp_ne_vb, cmp_ne_bf, cmp_ne_bb, cmp_lt, cmp_le, cmp_gt, cmp_ge, cmp_is_non, cmp_isn_non, cmp_is_bl, cmp_isn_bl, isNon_non, isNon_int, isNon_str, isNon_lst, isNon_tup, isNon_frl, isNon_obj, isNon_bl, ix_tup, ix_v, ix_f, ix_b, tg_nm, tg_t2, tg_t3, asg_nm, asg_t2, asg_t3, nm_val, nm_fresh, nm_stt, sl_val, sl_brw, sl_stt, ty_int, ty_tt, ty_tv, ty_lv, ty_tf, ty_lf, ty_tb, ty_lb, ty_lt, slc_tup, slc_v, slc_f, slc_b, slc_str, ti, li, p2, it_sq, len_sq, rng_1, rng_2, it_sqR, len_sqR, rd_sqR, as_sqR] using this
theorem law_keeps (K : Kn C) : KeepsL C ir_law n_law 63 := by
  intro ns hl
  simp [ir_law, ir_l_20, n_law, wS, wE, wEs, wT, wC, wO, wIt, wipeD, frzD, Cst.d, asAll, startD, wEq_int, wEq_str, wEq_bl, wBi_len, wBi_abs, wBi_min2, wBi_max2, see_val, see_fresh, see_brw, dat_val, dat_fresh, out_val, out_fresh, out_stt, tru_non, tru_bl, tru_int, tru_lst, tru_tup, tru_fresh, tru_brw, as_vv, as_vf, as_s, as_av, as_af, as_ab, as_bf, as_bb, as_bl, lv_lst, lv_fresh, lv_brw, int_int, len_lst, len_tup, len_frl, len_fresh, len_brw, rd_val, rd_own, rd_bor, rd_stt, it_lst, it_tup, it_frl, it_fresh, it_brw, bin_add, bin_sub, bin_mul, bin_fdiv, bin_mod, bin_pow, bin_str, cat_vv, cat_vf, cat_vb, rep_v, cat_fv, cat_ff, cat_fb, rep_f, cat_bv, cat_bf, cat_bb, rep_b, cmp_eq_vv, cmp_eq_fv, cmp_eq_vf, cmp_eq_ff, cmp_eq_fb, cmp_eq_bv, cmp_eq_vb, cmp_eq_bf, cmp_eq_bb, cmp_ne_vv, cmp_ne_fv, cmp_ne_vf, cmp_ne_ff, cmp_ne_fb, cmp_ne_bv, cmp_ne_vb, cmp_ne_bf, cmp_ne_bb, cmp_lt, cmp_le, cmp_gt, cmp_ge, cmp_is_non, cmp_isn_non, cmp_is_bl, cmp_isn_bl, isNon_non, isNon_int, isNon_str, isNon_lst, isNon_tup, isNon_frl, isNon_obj, isNon_bl, ix_tup, ix_v, ix_f, ix_b, tg_nm, tg_t2, tg_t3, asg_nm, asg_t2, asg_t3, nm_val, nm_fresh, nm_stt, sl_val, sl_brw, sl_stt, ty_int, ty_tt, ty_tv, ty_lv, ty_tf, ty_lf, ty_tb, ty_lb, ty_lt, slc_tup, slc_v, slc_f, slc_b, slc_str, ti, li, p2, it_sq, len_sq, rng_1, rng_2, it_sqR, len_sqR, rd_sqR, as_sqR]
  refine ⟨by omega, fun _ => by rw [rg_length]; omega, ?_⟩
  refine forD_of (fun xs δ => ∃ (ys : List Int) (t : List Sl), xs = ys.map D.int ∧ δ = .val (.frl (ns.map D.int)) :: .stt :: t ∧ t.length = 13) ?_ ?_ ⟨_, _, rfl, rfl, rfl⟩
  · rintro δ ⟨ys, t, _, rfl, _⟩
    simp [ir_l_19, wS, wE, wEs, wT, wC, wO, wIt, wipeD, frzD, Cst.d, asAll, startD, wEq_int, wEq_str, wEq_bl, wBi_len, wBi_abs, wBi_min2, wBi_max2, see_val, see_fresh, see_brw, dat_val, dat_fresh, out_val, out_fresh, out_stt, tru_non, tru_bl, tru_int, tru_lst, tru_tup, tru_fresh, tru_brw, as_vv, as_vf, as_s, as_av, as_af, as_ab, as_bf, as_bb, as_bl, lv_lst, lv_fresh, lv_brw, int_int, len_lst, len_tup, len_frl, len_fresh, len_brw, rd_val, rd_own, rd_bor, rd_stt, it_lst, it_tup, it_frl, it_fresh, it_brw, bin_add, bin_sub, bin_mul, bin_fdiv, bin_mod, bin_pow, bin_str, cat_vv, cat_vf, cat_vb, rep_v, cat_fv, cat_ff, cat_fb, rep_f, cat_bv, cat_bf, cat_bb, rep_b, cmp_eq_vv, cmp_eq_fv, cmp_eq_vf, cmp_eq_ff, cmp_eq_fb, cmp_eq_bv, cmp_eq_vb, cmp_eq_bf, cmp_eq_bb, cmp_ne_vv, cmp_ne_fv, cmp_ne_vf, cmp_ne_ff, cmp_ne_fb, cmp_ne_bv, cmp_ne_vb, cmp_ne_bf, cmp_ne_bb, cmp_lt, cmp_le, cmp_gt, cmp_ge, cmp_is_non, cmp_isn_non, cmp_is_bl, cmp_isn_bl, isNon_non, isNon_int, isNon_str, isNon_lst, isNon_tup, isNon_frl, isNon_obj, isNon_bl, ix_tup, ix_v, ix_f, ix_b, tg_nm, tg_t2, tg_t3, asg_nm, asg_t2, asg_t3, nm_val, nm_fresh, nm_stt, sl_val, sl_brw, sl_stt, ty_int, ty_tt, ty_tv, ty_lv, ty_tf, ty_lf, ty_tb, ty_lb, ty_lt, slc_tup, slc_v, slc_f, slc_b, slc_str, ti, li, p2, it_sq, len_sq, rng_1, rng_2, it_sqR, len_sqR, rd_sqR, as_sqR]
  · rintro x xs δ k ⟨ys, t, e, rfl, ht⟩ hk
    cases ys with
    | nil => cases e
    | cons y ys =>
      simp only [List.map_cons, List.cons.injEq] at e
      obtain ⟨rfl, e⟩ := e
      obtain ⟨s2, s3, s4, s5, s6, s7, s8, s9, s10, s11, s12, s13, s14, rfl⟩ := ex13 ht
      simp only [tg_nm, List.set_cons_zero, List.set_cons_succ]
      exact l18 K rfl fun t ht => hk _ ⟨ys, t, e, rfl, ht⟩
end
end Dl.K00

set_option Elab.async false
set_option linter.all false
set_option maxRecDepth 100000
set_option maxHeartbeats 0
namespace Dl.K00
open PySem PySem.Spec PyProof.Rows L2
def top (i : Nat) : Stmt := PySem.Challenge.pw_roundrates_k00_whole_daily_links.main.body.getD i (.Pass ⟨0, 0, 0, 0⟩)
abbrev s0 : Stmt := top 22
def d0 : Df := ⟨.gl "_law_begun", "_law_begun", s0⟩
abbrev s1 : Stmt := top 23
def d1 : Df := ⟨.gl "_law_mixed", "_law_mixed", s1⟩
abbrev s2 : Stmt := top 24
def d2 : Df := ⟨.gl "_law_draw", "_law_draw", s2⟩
abbrev s3 : Stmt := top 27
def d3 : Df := ⟨.gl "_law_plain", "_law_plain", s3⟩
abbrev s4 : Stmt := top 25
def d4 : Df := ⟨.gl "_law_pick", "_law_pick", s4⟩
abbrev s5 : Stmt := top 33
def d5 : Df := ⟨.gl "_law_some_length", "_law_some_length", s5⟩
abbrev s6 : Stmt := top 34
def d6 : Df := ⟨.gl "_law_some_rides", "_law_some_rides", s6⟩
abbrev s7 : Stmt := top 8
def d7 : Df := ⟨.gl "is_number", "is_number", s7⟩
abbrev s8 : Stmt := top 13
def d8 : Df := ⟨.gl "is_length", "is_length", s8⟩
abbrev s9 : Stmt := top 14
def d9 : Df := ⟨.gl "need_length", "need_length", s9⟩
abbrev s10 : Stmt := top 9
def d10 : Df := ⟨.gl "is_ride", "is_ride", s10⟩
abbrev s11 : Stmt := top 18
def d11 : Df := ⟨.gl "ends_of", "ends_of", s11⟩
abbrev s12 : Stmt := inClass (top 20) 0
def d12 : Df := ⟨.me "Daily" "__init__", "Daily.__init__", s12⟩
abbrev s13 : Stmt := top 30
def d13 : Df := ⟨.gl "_law_map", "_law_map", s13⟩
abbrev s14 : Stmt := top 31
def d14 : Df := ⟨.gl "_law_go", "_law_go", s14⟩
abbrev s15 : Stmt := top 32
def d15 : Df := ⟨.gl "_law_back", "_law_back", s15⟩
abbrev s16 : Stmt := top 35
def d16 : Df := ⟨.gl "_law_needed", "_law_needed", s16⟩
abbrev s17 : Stmt := top 26
def d17 : Df := ⟨.gl "_law_shuffled", "_law_shuffled", s17⟩
abbrev s18 : Stmt := top 29
def d18 : Df := ⟨.gl "_law_says", "_law_says", s18⟩
abbrev s19 : Stmt := top 28
def d19 : Df := ⟨.gl "_law_is", "_law_is", s19⟩
abbrev s20 : Stmt := inClass (top 20) 6
def d20 : Df := ⟨.me "Daily" "__eq__", "Daily.__eq__", s20⟩
abbrev s21 : Stmt := top 15
def d21 : Df := ⟨.gl "need_numbers", "need_numbers", s21⟩
abbrev s22 : Stmt := top 16
def d22 : Df := ⟨.gl "led_on", "led_on", s22⟩
abbrev s23 : Stmt := inClass (top 20) 3
def d23 : Df := ⟨.me "Daily" "end", "Daily.end", s23⟩
abbrev s24 : Stmt := top 17
def d24 : Df := ⟨.gl "led_back", "led_back", s24⟩
abbrev s25 : Stmt := inClass (top 20) 4
def d25 : Df := ⟨.me "Daily" "begin", "Daily.begin", s25⟩
abbrev s26 : Stmt := inClass (top 20) 1
def d26 : Df := ⟨.pr "Daily" "length", "Daily.length", s26⟩
abbrev s27 : Stmt := inClass (top 20) 2
def d27 : Df := ⟨.pr "Daily" "rides", "Daily.rides", s27⟩
abbrev s28 : Stmt := top 36
def d28 : Df := ⟨.gl "law", "law", s28⟩
def fn : List Df := [d0, d1, d2, d3, d4, d5, d6, d7, d8, d9, d10, d11, d12, d13, d14, d15, d16, d17, d18, d19, d20, d21, d22, d23, d24, d25, d26, d27, d28]
def hd : Head where
  glo := ["_law_begun", "_law_mixed", "_law_draw", "_law_plain", "_law_pick", "_law_some_length", "_law_some_rides", "is_number", "is_length", "need_length", "is_ride", "ends_of", "_law_map", "_law_go", "_law_back", "_law_needed", "_law_shuffled", "_law_says", "_law_is", "need_numbers", "led_on", "led_back", "law", "Daily"]
  nums := [("MOST_LENGTH", 60), ("MOST_RIDES", 60)]
  free := ["abs", "all", "bool", "dict", "enumerate", "int", "isinstance", "len", "list", "max", "min", "property", "range", "repr", "str", "tuple"]
  cls := ["Daily"]
  mth := [("Daily", "__eq__"), ("Daily", "end"), ("Daily", "begin")]
  prp := [("Daily", "length"), ("Daily", "rides")]
  fld := [("Daily", "own_ends")]
  isa := [(.c "Daily", .c "Daily", true), (.b "tuple", .c "Daily", false)]
def e0 : En := ⟨.gl "_law_draw", .fn, fsDraw, 1, []⟩
def e1 : En := ⟨.gl "_law_plain", .fn, fsPlain 7, 0, []⟩
def e2 : En := ⟨.gl "_law_pick", .fn, fsPick, 1, []⟩
def e3 : En := ⟨.gl "_law_some_length", .fn, fsSomeLength, 2, []⟩
def e4 : En := ⟨.gl "_law_some_rides", .fn, fsSomeRides, 196, []⟩
def e5 : En := ⟨.gl "is_number", .fn, fsIsNumber, 0, []⟩
def e6 : En := ⟨.gl "is_length", .fn, fsIsLength, 0, []⟩
def e7 : En := ⟨.gl "need_length", .fn, fsNeedLength, 0, []⟩
def e8 : En := ⟨.gl "is_ride", .fn, fsIsRide, 0, []⟩
def e9 : En := ⟨.gl "ends_of", .fn, fsEndsOf, 0, []⟩
def e10 : En := ⟨.gl "Daily", .ini, fsDaily, 0, []⟩
def e11 : En := ⟨.kw "Daily" ["rides", "length"], .fn, fsDaily, 0, [1, 0]⟩
def e12 : En := ⟨.gl "_law_map", .fn, fsMap, 0, []⟩
def e13 : En := ⟨.gl "_law_go", .fn, fsGo, 0, []⟩
def e14 : En := ⟨.gl "_law_back", .fn, fsBack, 0, []⟩
def e15 : En := ⟨.gl "_law_needed", .fn, fsNeeded, 0, []⟩
def e16 : En := ⟨.gl "_law_shuffled", .fn, fsShuffled, 65, []⟩
def e17 : En := ⟨.gl "_law_says", .fn, fsSays, 0, []⟩
def e18 : En := ⟨.gl "_law_is", .fnG, fsIs, 0, []⟩
def e19 : En := ⟨.me "Daily" "__eq__", .fn, fsDEq, 0, []⟩
def e20 : En := ⟨.gl "need_numbers", .fn, fsStar fsNeedNumbers, 0, []⟩
def e21 : En := ⟨.gl "led_on", .fn, fsLedOn, 0, []⟩
def e22 : En := ⟨.me "Daily" "end", .fn, fsDEnd, 0, []⟩
def e23 : En := ⟨.gl "led_back", .fn, fsLedBack, 0, []⟩
def e24 : En := ⟨.me "Daily" "begin", .fn, fsDBegin, 0, []⟩
def e25 : En := ⟨.pr "Daily" "length", .fn, fsDLen, 0, []⟩
def e26 : En := ⟨.pr "Daily" "rides", .fn, fsDRides, 0, []⟩
def T0 : List En := [e0]
def T1 : List En := e1 :: T0
def T2 : List En := e2 :: T1
def T3 : List En := e3 :: T2
def T4 : List En := e4 :: T3
def T5 : List En := e5 :: T4
def T6 : List En := e6 :: T5
def T7 : List En := e7 :: T6
def T8 : List En := e8 :: T7
def T9 : List En := e9 :: T8
def T10 : List En := e10 :: T9
def T11 : List En := e11 :: T10
def T12 : List En := e12 :: T11
def T13 : List En := e13 :: T12
def T14 : List En := e14 :: T13
def T15 : List En := e15 :: T14
def T16 : List En := e16 :: T15
def T17 : List En := e17 :: T16
def T18 : List En := e18 :: T17
def T19 : List En := e19 :: T18
def T20 : List En := e20 :: T19
def T21 : List En := e21 :: T20
def T22 : List En := e22 :: T21
def T23 : List En := e23 :: T22
def T24 : List En := e24 :: T23
def T25 : List En := e25 :: T24
def T26 : List En := e26 :: T25
theorem isaok {T : List En} : IsaOk (ctOf hd.ba T) := ⟨fun s t r h => by show (match isaB s t with | some r => some r | none => lookI hd.isa s t) = some r; rw [h]⟩
theorem kn : Kn (ctOf hd.ba T26) where
  len := (has_of (B := hd.ba) (T := T26) (e := e3) 23 (by decide +kernel) rfl trivial)
  rid := (has_of (B := hd.ba) (T := T26) (e := e4) 22 (by decide +kernel) rfl trivial)
  day := (has_of (B := hd.ba) (T := T26) (e := e10) 16 (by decide +kernel) rfl trivial)
  dkw := (has_of (B := hd.ba) (T := T26) (e := e11) 15 (by decide +kernel) rfl rfl)
  map := (has_of (B := hd.ba) (T := T26) (e := e12) 14 (by decide +kernel) rfl trivial)
  go := (has_of (B := hd.ba) (T := T26) (e := e13) 13 (by decide +kernel) rfl trivial)
  back := (has_of (B := hd.ba) (T := T26) (e := e14) 12 (by decide +kernel) rfl trivial)
  need := (has_of (B := hd.ba) (T := T26) (e := e15) 11 (by decide +kernel) rfl trivial)
  draw := (has_of (B := hd.ba) (T := T26) (e := e0) 26 (by decide +kernel) rfl trivial)
  pick := (has_of (B := hd.ba) (T := T26) (e := e2) 24 (by decide +kernel) rfl trivial)
  shuf := (has_of (B := hd.ba) (T := T26) (e := e16) 10 (by decide +kernel) rfl trivial)
  says := (has_of (B := hd.ba) (T := T26) (e := e17) 9 (by decide +kernel) rfl trivial)
  is := (has_of (B := hd.ba) (T := T26) (e := e18) 8 (by decide +kernel) rfl trivial)
  own := (by decide +kernel)
  eq := (has_of (B := hd.ba) (T := T26) (e := e19) 7 (by decide +kernel) rfl rfl)
  en := (has_of (B := hd.ba) (T := T26) (e := e22) 4 (by decide +kernel) rfl rfl)
  be := (has_of (B := hd.ba) (T := T26) (e := e24) 2 (by decide +kernel) rfl rfl)
  le := (has_of (B := hd.ba) (T := T26) (e := e25) 1 (by decide +kernel) rfl rfl)
  ri := (has_of (B := hd.ba) (T := T26) (e := e26) 0 (by decide +kernel) rfl rfl)
section
variable {w : World} {K : PySem.W.Frag} {h base : Heap} {mg : Str → Option Value} (X : K.In h) (G : h.Ns mainGlobals mg) (c : SaysX hd.fa fn K)
abbrev g0 (w : World) (K : PySem.W.Frag) (mg : Str → Option Value) (base : Heap) : Gb := gb (PySem.Challenge.rw_roundrates_k00_whole_daily_links).prog w K mg base
include X G c
theorem bk : BaOk (g0 w K mg base) hd.ba := Head.ok X G c (by decide +kernel) (by decide +kernel)
theorem t0 : TOk (g0 w K mg base) 4 T0 := by
  obtain ⟨f1, F1⟩ := c.def_ 1 (d := d1) rfl
  obtain ⟨f2, F2⟩ := c.def_ 2 (d := d2) rfl
  exact (TOk.nil (k := 0)).cons (ob_draw (p := 2147483477) (q := 2147483423) (r := 2147483399) (z := 2147483353) F1 rfl F2 rfl (Head.glo_ok X G c (x := "_law_mixed") (by decide +kernel)) (Head.glo_ok X G c (x := "_law_draw") (by decide +kernel)) (bk X G c) (by decide +kernel) (by decide +kernel) (by decide +kernel) (by decide) (by decide) (by decide) (by decide)) (by omega)
theorem t1 : TOk (g0 w K mg base) 16 T1 := by
  obtain ⟨f, F⟩ := c.def_ 3 (d := d3) rfl
  exact (t0 X G c).cons (ob_plain F rfl (Head.glo_ok X G c (x := "_law_plain") (by decide +kernel)) (bk X G c) (by decide +kernel)) (by omega)
theorem t2 : TOk (g0 w K mg base) 18 T2 := by
  obtain ⟨f, F⟩ := c.def_ 4 (d := d4) rfl
  exact (t1 X G c).cons (ob_gl (N := n_law_pick) (ps := ["state", "some"]) (ir := ir_law_pick) F rfl (Head.glo_ok X G c (x := "_law_pick") (by decide +kernel)) (by decide +kernel) (bk X G c) (t1 X G c) (by decide +kernel) (pick_keeps (has_of (B := hd.ba) (T := T1) (e := e0) 1 (by decide +kernel) rfl trivial))) (by omega)
theorem t3 : TOk (g0 w K mg base) 20 T3 := by
  obtain ⟨f, F⟩ := c.def_ 5 (d := d5) rfl
  exact (t2 X G c).cons (ob_gl (N := n_law_some_length) (ps := ["state"]) (ir := ir_law_some_length) F rfl (Head.glo_ok X G c (x := "_law_some_length") (by decide +kernel)) (by decide +kernel) (bk X G c) (t2 X G c) (by decide +kernel) (some_length_keeps (has_of (B := hd.ba) (T := T2) (e := e0) 2 (by decide +kernel) rfl trivial) (has_of (B := hd.ba) (T := T2) (e := e2) 0 (by decide +kernel) rfl trivial))) (by omega)
theorem t4 : TOk (g0 w K mg base) 22 T4 := by
  obtain ⟨f, F⟩ := c.def_ 6 (d := d6) rfl
  exact (t3 X G c).cons (ob_gl (N := n_law_some_rides) (ps := ["state", "length"]) (ir := ir_law_some_rides) F rfl (Head.glo_ok X G c (x := "_law_some_rides") (by decide +kernel)) (by decide +kernel) (bk X G c) (t3 X G c) (by decide +kernel) (some_rides_keeps (has_of (B := hd.ba) (T := T3) (e := e0) 3 (by decide +kernel) rfl trivial))) (by omega)
theorem t5 : TOk (g0 w K mg base) 24 T5 := by
  obtain ⟨f, F⟩ := c.def_ 7 (d := d7) rfl
  exact (t4 X G c).cons (ob_gl (N := n_is_number) (ps := ["thing"]) (ir := ir_is_number) F rfl (Head.glo_ok X G c (x := "is_number") (by decide +kernel)) (by decide +kernel) (bk X G c) (t4 X G c) (by decide +kernel) (is_number_keeps isaok)) (by omega)
theorem t6 : TOk (g0 w K mg base) 26 T6 := by
  obtain ⟨f, F⟩ := c.def_ 8 (d := d8) rfl
  exact (t5 X G c).cons (ob_gl (N := n_is_length) (ps := ["thing"]) (ir := ir_is_length) F rfl (Head.glo_ok X G c (x := "is_length") (by decide +kernel)) (by decide +kernel) (bk X G c) (t5 X G c) (by decide +kernel) (is_length_keeps (has_of (B := hd.ba) (T := T5) (e := e5) 0 (by decide +kernel) rfl trivial) (gc_of (by decide +kernel)))) (by omega)
theorem t7 : TOk (g0 w K mg base) 28 T7 := by
  obtain ⟨f, F⟩ := c.def_ 9 (d := d9) rfl
  exact (t6 X G c).cons (ob_gl (N := n_need_length) (ps := ["length"]) (ir := ir_need_length) F rfl (Head.glo_ok X G c (x := "need_length") (by decide +kernel)) (by decide +kernel) (bk X G c) (t6 X G c) (by decide +kernel) (need_length_keeps (has_of (B := hd.ba) (T := T6) (e := e6) 0 (by decide +kernel) rfl trivial))) (by omega)
theorem t8 : TOk (g0 w K mg base) 30 T8 := by
  obtain ⟨f, F⟩ := c.def_ 10 (d := d10) rfl
  exact (t7 X G c).cons (ob_gl (N := n_is_ride) (ps := ["thing"]) (ir := ir_is_ride) F rfl (Head.glo_ok X G c (x := "is_ride") (by decide +kernel)) (by decide +kernel) (bk X G c) (t7 X G c) (by decide +kernel) (is_ride_keeps isaok (has_of (B := hd.ba) (T := T7) (e := e5) 2 (by decide +kernel) rfl trivial))) (by omega)
theorem t9 : TOk (g0 w K mg base) 32 T9 := by
  obtain ⟨f, F⟩ := c.def_ 11 (d := d11) rfl
  exact (t8 X G c).cons (ob_gl (N := n_ends_of) (ps := ["length", "rides"]) (ir := ir_ends_of) F rfl (Head.glo_ok X G c (x := "ends_of") (by decide +kernel)) (by decide +kernel) (bk X G c) (t8 X G c) (by decide +kernel) ends_of_keeps) (by omega)
theorem t10 : TOk (g0 w K mg base) 34 T10 := by
  obtain ⟨f, F⟩ := c.def_ 12 (d := d12) rfl
  exact (t9 X G c).cons (ob_ini (N := n_Daily___init__) (ps := ["self", "length", "rides"]) (ir := ir_Daily___init__) F rfl (Head.glo_ok X G c (x := "Daily") (by decide +kernel)) (Head.mk_ok c (y := "Daily") (by decide +kernel)) (by decide +kernel) (bk X G c) (t9 X G c) (by decide +kernel) (daily_init_keeps isaok (has_of (B := hd.ba) (T := T9) (e := e7) 2 (by decide +kernel) rfl trivial) (has_of (B := hd.ba) (T := T9) (e := e8) 1 (by decide +kernel) rfl trivial) (has_of (B := hd.ba) (T := T9) (e := e9) 0 (by decide +kernel) rfl trivial) (gc_of (by decide +kernel)) (by decide +kernel))) (by omega)
theorem t11 : TOk (g0 w K mg base) 36 T11 := by
  obtain ⟨f, F⟩ := c.def_ 12 (d := d12) rfl
  exact (t10 X G c).cons (ob_kw (N := n_Daily___init__) (ps := ["self", "length", "rides"]) (ir := ir_Daily___init__) (ks := ["rides", "length"]) (pm := [1, 0]) F rfl (Head.glo_ok X G c (x := "Daily") (by decide +kernel)) (Head.mk_ok c (y := "Daily") (by decide +kernel)) (by decide +kernel) (bk X G c) (t10 X G c) (by decide +kernel) (daily_init_keeps isaok (has_of (B := hd.ba) (T := T10) (e := e7) 3 (by decide +kernel) rfl trivial) (has_of (B := hd.ba) (T := T10) (e := e8) 2 (by decide +kernel) rfl trivial) (has_of (B := hd.ba) (T := T10) (e := e9) 1 (by decide +kernel) rfl trivial) (gc_of (by decide +kernel)) (by decide +kernel)) (fun kV doc pmv an cdv ct u ws hl => match ws, hl with | [a0, a1], _ => by kernel_rfl) (by decide)) (by omega)
theorem t12 : TOk (g0 w K mg base) 38 T12 := by
  obtain ⟨f, F⟩ := c.def_ 13 (d := d13) rfl
  exact (t11 X G c).cons (ob_gl (N := n_law_map) (ps := ["length", "rides"]) (ir := ir_law_map) F rfl (Head.glo_ok X G c (x := "_law_map") (by decide +kernel)) (by decide +kernel) (bk X G c) (t11 X G c) (by decide +kernel) map_keeps) (by omega)
theorem t13 : TOk (g0 w K mg base) 40 T13 := by
  obtain ⟨f, F⟩ := c.def_ 14 (d := d14) rfl
  exact (t12 X G c).cons (ob_gl (N := n_law_go) (ps := ["ends", "number"]) (ir := ir_law_go) F rfl (Head.glo_ok X G c (x := "_law_go") (by decide +kernel)) (by decide +kernel) (bk X G c) (t12 X G c) (by decide +kernel) go_keeps) (by omega)
theorem t14 : TOk (g0 w K mg base) 42 T14 := by
  obtain ⟨f, F⟩ := c.def_ 15 (d := d15) rfl
  exact (t13 X G c).cons (ob_gl (N := n_law_back) (ps := ["ends", "number"]) (ir := ir_law_back) F rfl (Head.glo_ok X G c (x := "_law_back") (by decide +kernel)) (by decide +kernel) (bk X G c) (t13 X G c) (by decide +kernel) (back_keeps (has_of (B := hd.ba) (T := T13) (e := e13) 0 (by decide +kernel) rfl trivial))) (by omega)
theorem t15 : TOk (g0 w K mg base) 44 T15 := by
  obtain ⟨f, F⟩ := c.def_ 16 (d := d16) rfl
  exact (t14 X G c).cons (ob_gl (N := n_law_needed) (ps := ["ends"]) (ir := ir_law_needed) F rfl (Head.glo_ok X G c (x := "_law_needed") (by decide +kernel)) (by decide +kernel) (bk X G c) (t14 X G c) (by decide +kernel) (needed_keeps (has_of (B := hd.ba) (T := T14) (e := e13) 1 (by decide +kernel) rfl trivial))) (by omega)
theorem t16 : TOk (g0 w K mg base) 46 T16 := by
  obtain ⟨f, F⟩ := c.def_ 17 (d := d17) rfl
  exact (t15 X G c).cons (ob_gl (N := n_law_shuffled) (ps := ["state", "some"]) (ir := ir_law_shuffled) F rfl (Head.glo_ok X G c (x := "_law_shuffled") (by decide +kernel)) (by decide +kernel) (bk X G c) (t15 X G c) (by decide +kernel) (shuffled_keeps (has_of (B := hd.ba) (T := T15) (e := e0) 15 (by decide +kernel) rfl trivial))) (by omega)
theorem t17 : TOk (g0 w K mg base) 48 T17 := by
  obtain ⟨f, F⟩ := c.def_ 18 (d := d18) rfl
  exact (t16 X G c).cons (ob_gl (N := n_law_says) (ps := ["told", "is_due"]) (ir := ir_law_says) F rfl (Head.glo_ok X G c (x := "_law_says") (by decide +kernel)) (by decide +kernel) (bk X G c) (t16 X G c) (by decide +kernel) says_keeps) (by omega)
theorem t18 : TOk (g0 w K mg base) 50 T18 := by
  obtain ⟨f, F⟩ := c.def_ 19 (d := d19) rfl
  exact (t17 X G c).cons (ob_glG (N := isN) (ps := ["found", "due"]) (ir := irIs) F rfl (Head.glo_ok X G c (x := "_law_is") (by decide +kernel)) (by decide +kernel) (bk X G c) (t17 X G c) (by decide +kernel) (is_keeps (has_of (B := hd.ba) (T := T17) (e := e1) 16 (by decide +kernel) rfl trivial).1)) (by omega)
theorem t19 : TOk (g0 w K mg base) 52 T19 := by
  obtain ⟨f, F⟩ := c.def_ 20 (d := d20) rfl
  exact (t18 X G c).cons (ob_me (N := n_Daily___eq__) (ps := ["self", "other"]) (ir := ir_Daily___eq__) F rfl (Head.cls_ok c (y := "Daily") (by decide +kernel)) (Head.me_ok c (y := "Daily") (m := "__eq__") (by decide +kernel)) (by decide +kernel) (bk X G c) (t18 X G c) (by decide +kernel) (d_eq_keeps (by decide +kernel) (by decide +kernel) (by decide +kernel) (by decide +kernel))) (by omega)
theorem t20 : TOk (g0 w K mg base) 54 T20 := by
  obtain ⟨f, F⟩ := c.def_ 21 (d := d21) rfl
  exact (t19 X G c).cons (ob_star (N := n_need_numbers) (pv := "numbers") (ir := ir_need_numbers) F rfl (Head.glo_ok X G c (x := "need_numbers") (by decide +kernel)) (by decide +kernel) (bk X G c) (t19 X G c) (by decide +kernel) (need_numbers_keeps (has_of (B := hd.ba) (T := T19) (e := e5) 14 (by decide +kernel) rfl trivial)) rfl) (by omega)
theorem t21 : TOk (g0 w K mg base) 56 T21 := by
  obtain ⟨f, F⟩ := c.def_ 22 (d := d22) rfl
  exact (t20 X G c).cons (ob_gl (N := n_led_on) (ps := ["ends", "number"]) (ir := ir_led_on) F rfl (Head.glo_ok X G c (x := "led_on") (by decide +kernel)) (by decide +kernel) (bk X G c) (t20 X G c) (by decide +kernel) led_on_keeps) (by omega)
theorem t22 : TOk (g0 w K mg base) 58 T22 := by
  obtain ⟨f, F⟩ := c.def_ 23 (d := d23) rfl
  exact (t21 X G c).cons (ob_me (N := n_Daily_end) (ps := ["self", "number"]) (ir := ir_Daily_end) F rfl (Head.cls_ok c (y := "Daily") (by decide +kernel)) (Head.me_ok c (y := "Daily") (m := "end") (by decide +kernel)) (by decide +kernel) (bk X G c) (t21 X G c) (by decide +kernel) (d_end_keeps (by decide +kernel) (has_of (B := hd.ba) (T := T21) (e := e20) 1 (by decide +kernel) rfl trivial) (has_of (B := hd.ba) (T := T21) (e := e21) 0 (by decide +kernel) rfl trivial))) (by omega)
theorem t23 : TOk (g0 w K mg base) 60 T23 := by
  obtain ⟨f, F⟩ := c.def_ 24 (d := d24) rfl
  exact (t22 X G c).cons (ob_gl (N := n_led_back) (ps := ["ends", "number"]) (ir := ir_led_back) F rfl (Head.glo_ok X G c (x := "led_back") (by decide +kernel)) (by decide +kernel) (bk X G c) (t22 X G c) (by decide +kernel) led_back_keeps) (by omega)
theorem t24 : TOk (g0 w K mg base) 62 T24 := by
  obtain ⟨f, F⟩ := c.def_ 25 (d := d25) rfl
  exact (t23 X G c).cons (ob_me (N := n_Daily_begin) (ps := ["self", "number"]) (ir := ir_Daily_begin) F rfl (Head.cls_ok c (y := "Daily") (by decide +kernel)) (Head.me_ok c (y := "Daily") (m := "begin") (by decide +kernel)) (by decide +kernel) (bk X G c) (t23 X G c) (by decide +kernel) (d_begin_keeps (by decide +kernel) (has_of (B := hd.ba) (T := T23) (e := e20) 3 (by decide +kernel) rfl trivial) (has_of (B := hd.ba) (T := T23) (e := e23) 0 (by decide +kernel) rfl trivial))) (by omega)
theorem t25 : TOk (g0 w K mg base) 64 T25 := by
  obtain ⟨f, F⟩ := c.def_ 26 (d := d26) rfl
  exact (t24 X G c).cons (ob_pr (N := n_Daily_length) (ps := ["self"]) (ir := ir_Daily_length) F rfl (Head.cls_ok c (y := "Daily") (by decide +kernel)) (Head.pr_ok c (y := "Daily") (f := "length") (by decide +kernel)) (by decide +kernel) (bk X G c) (t24 X G c) (by decide +kernel) (d_length_keeps (by decide +kernel))) (by omega)
theorem t26 : TOk (g0 w K mg base) 66 T26 := by
  obtain ⟨f, F⟩ := c.def_ 27 (d := d27) rfl
  exact (t25 X G c).cons (ob_pr (N := n_Daily_rides) (ps := ["self"]) (ir := ir_Daily_rides) F rfl (Head.cls_ok c (y := "Daily") (by decide +kernel)) (Head.pr_ok c (y := "Daily") (f := "rides") (by decide +kernel)) (by decide +kernel) (bk X G c) (t25 X G c) (by decide +kernel) (d_rides_keeps (by decide +kernel) (has_of (B := hd.ba) (T := T25) (e := e21) 4 (by decide +kernel) rfl trivial))) (by omega)
theorem lawG : FnG (PySem.Challenge.rw_roundrates_k00_whole_daily_links).prog w K mg base (L2.CX (PySem.Challenge.rw_roundrates_k00_whole_daily_links).prog w) 68 (He.ga K "law") (spLaw (g0 w K mg base) 63) := by
  obtain ⟨f, F⟩ := c.def_ 28 (d := d28) rfl
  obtain ⟨f0, F0⟩ := c.def_ 0 (d := d0) rfl
  exact ob_law (N := n_law) (ir := ir_law) F rfl F0 rfl (Head.glo_ok X G c (x := "_law_begun") (by decide +kernel)) (bk X G c) (by decide +kernel) (by decide +kernel) (t26 X G c) (by omega) (by rw [sizeLine_eq]; decide) (by decide +kernel) (law_keeps kn)
end
def loose0 : List PySem.Str := ["_wall", "OrderError", "NoMoment", "NoRides", "NoLength", "OtherLength", "is_number", "is_ride", "MOST_LENGTH", "MOST_RIDES", "is_length", "need_length", "need_numbers", "led_on", "led_back", "ends_of", "daily_by", "Daily", "_law_begun", "_law_mixed", "_law_draw", "_law_pick", "_law_shuffled", "_law_plain", "_law_is", "_law_says", "_law_map", "_law_go", "_law_back", "_law_some_length"]
def loose1 : List PySem.Str := ["_law_some_rides", "_law_needed"]
def loose : List PySem.Str := loose0 ++ loose1
abbrev R : PySem.W.OpenRow := PySem.W.OpenLaw.row PySem.Challenge.rw_roundrates_k00_whole_daily_links
abbrev hk : PySem.W.Hook := hookX 5 hd.fa fn
def ob (s : PySem.W.SharedT) : He.AlD := obsXG 5 hd.fa fn (HandSHeadRun.getT s)
theorem ob_eq (s : PySem.W.SharedT) : ob s = hk.obs s.abs := obsXG_eq (HandSHeadRun.getT_eq s)
theorem run (w : World) : HandSHeadRun.RunEq R (PySem.W.view R.prog [36]) hk ob 20000 loose w := by
  intro os
  kernel_rfl
end Dl.K00
open PySem PySem.W PySem.Calls PyProof.Rows
set_option maxRecDepth 100000 in
set_option maxHeartbeats 0 in
theorem PySem.Challenge.cw_roundrates_k00_whole_daily_links_holds : PySem.Challenge.rw_roundrates_k00_whole_daily_links.Holds := by
  w_on; o_law
  refine HandSHeadRun.head_any (r := OpenLaw.row PySem.Challenge.rw_roundrates_k00_whole_daily_links) (q := view (OpenLaw.row PySem.Challenge.rw_roundrates_k00_whole_daily_links).prog [36]) (H := Dl.K00.hk) (ob := Dl.K00.ob) (M := 20000) (loose := Dl.K00.loose) (d := HandSHeadRun.topDef (OpenLaw.row PySem.Challenge.rw_roundrates_k00_whole_daily_links).prog 36) (kwd := []) Dl.K00.ob_eq
    (by kernel_rfl) (fun s => by kernel_rfl) Dl.K00.run (by kernel_rfl) (by kernel_rfl) (by kernel_rfl) (by rfl) (by first | assumption | decide +kernel) (by decide +kernel) ⟨rfl, rfl, rfl, rfl, rfl, by decide +kernel⟩ ?hw ?hc
  case hw => w_witness2
  case hc =>
    refine Dl.walk_ofG (l := PySem.Challenge.rw_roundrates_k00_whole_daily_links) (n := 63) (k := 68) rfl (by decide) (by kernel_rfl) ⟨rfl, by decide, by decide⟩ ?F
    intro w mg fa h Y G hmg0
    obtain ⟨K, KX, c⟩ := Y
    have hmg : mg ("law" : PySem.Str) = some (.ref fa) := by
      have e : (HandSHeadRun.topDef (OpenLaw.row PySem.Challenge.rw_roundrates_k00_whole_daily_links).prog 36).name = ("law" : PySem.Str) := by kernel_rfl
      rw [← e]
      exact hmg0
    have e2 := hmg.symm.trans (Dl.Head.glo_ok KX G c (x := "law") (by decide +kernel))
    cases e2
    refine ⟨K, Dl.spLaw (Dl.gb (PySem.Challenge.rw_roundrates_k00_whole_daily_links).prog w K mg h) 63, KX, fun H a ns hl _ hS => ⟨ns, a, rfl, hS, hl, fun _ => rfl⟩, fun base _ _ => ?_⟩
    exact Dl.K00.lawG (base := base) KX G c
