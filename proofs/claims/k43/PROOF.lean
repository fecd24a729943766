import PyProof.Rows.All
import Wide.All
import OpenK.AllK
import Wide.FinOn
import HandS.ForMost
import HandS.IsInst
import HandS.Wide
import HandS.Walk
import HandS.Ends
import HandS.TupAny
import KE.KTupSum
import HandS.Conv
import PyProof.ReprBulk
import PyProof.FitsInt
import KE.GoesMore
import HandS.Zip
import HandS.Star
import HandS.Style
import PySem.Challenge.RW_queueloops_k43_the_first_delay_above_a_s
set_option Elab.async false
set_option linter.all false
set_option maxRecDepth 100000
set_option maxHeartbeats 8000000
/-! A layer over the hand layer: what a def does, said over plain data. -/
namespace DL
open PySem L2

/-! ### data -/
inductive D where
  | non | bl (b : Bool) | int (i : Int) | str (x : Str) | tup (xs : List D) | lst (xs : List D) | scr (xs : List D) | ob (f : Hp → V → Prop)

mutual
def Dq (K : PySem.W.Frag) (H : Hp) : D → V → Prop
  | .non, v => v = .non
  | .bl b, v => v = .bl b
  | .int i, v => v = .int i
  | .str x, v => v = .str x
  | .tup ds, v => ∃ a xs, v = .ref a ∧ SqT K H a xs ∧ DqA K H ds xs
  | .lst ds, v => ∃ a xs, v = .ref a ∧ H a = some (.lst xs) ∧ DqA K H ds xs
  | .scr ds, v => ∃ a xs, v = .ref a ∧ SqL K H a xs ∧ DqA K H ds xs
  | .ob f, v => ∀ H', Same H H' → f H' v
def DqA (K : PySem.W.Frag) (H : Hp) : List D → List V → Prop
  | [], xs => xs = []
  | d :: ds, xs => ∃ x r, xs = x :: r ∧ Dq K H d x ∧ DqA K H ds r
end
section
variable {K : PySem.W.Frag} {H H' : Hp}
theorem Same.rd {a : Addr} {u : HO} (e : Same H H') (h : Rd H a u) : Rd H' a u := by
  rcases h with h | ⟨o, h⟩
  · exact .inl (e _ _ h)
  · exact .inr ⟨o, e _ _ h⟩
theorem Same.sqt {a : Addr} {xs : List V} (e : Same H H') (h : SqT K H a xs) : SqT K H' a xs := by
  rcases h with h | h
  · exact .inl (Same.rd e h)
  · exact .inr h
mutual
theorem Dq.mono (e : Same H H') : ∀ (d : D) (v : V), Dq K H d v → Dq K H' d v
  | .non, v, h => h
  | .bl b, v, h => h
  | .int i, v, h => h
  | .str x, v, h => h
  | .tup ds, v, h => by
    obtain ⟨a, xs, h1, h2, h3⟩ := h
    exact ⟨a, xs, h1, Same.sqt e h2, DqA.mono e ds xs h3⟩
  | .lst ds, v, h => by
    obtain ⟨a, xs, h1, h2, h3⟩ := h
    exact ⟨a, xs, h1, e _ _ h2, DqA.mono e ds xs h3⟩
  | .scr ds, v, h => by
    obtain ⟨a, xs, h1, h2, h3⟩ := h
    exact ⟨a, xs, h1, e.seq h2, DqA.mono e ds xs h3⟩
  | .ob f, v, h => fun H2 e2 => h H2 (e.trans e2)
theorem DqA.mono (e : Same H H') : ∀ (ds : List D) (xs : List V), DqA K H ds xs → DqA K H' ds xs
  | [], xs, h => h
  | d :: ds, xs, h => by
    obtain ⟨x, r, h1, h2, h3⟩ := h
    exact ⟨x, r, h1, Dq.mono e d x h2, DqA.mono e ds r h3⟩
end
theorem DqA.length : ∀ {ds : List D} {xs : List V}, DqA K H ds xs → xs.length = ds.length
  | [], xs, h => by
    have e : xs = [] := h
    rw [e]
    rfl
  | d :: ds, xs, h => by
    obtain ⟨x, r, h1, h2, h3⟩ := h
    rw [h1, List.length_cons, List.length_cons, DqA.length h3]
theorem DqA.get : ∀ {ds : List D} {xs : List V} {i : Nat} {d : D}, DqA K H ds xs → ds[i]? = some d → ∃ x, xs[i]? = some x ∧ Dq K H d x
  | [], xs, i, d, h, e => by simp at e
  | d0 :: ds, xs, 0, d, h, e => by
    obtain ⟨x, r, h1, h2, h3⟩ := h
    simp at e
    subst e
    exact ⟨x, by rw [h1]; rfl, h2⟩
  | d0 :: ds, xs, i + 1, d, h, e => by
    obtain ⟨x, r, h1, h2, h3⟩ := h
    obtain ⟨y, e1, e2⟩ := DqA.get (i := i) h3 (by simpa using e)
    exact ⟨y, by rw [h1]; simpa using e1, e2⟩
theorem DqA.getV : ∀ {ds : List D} {xs : List V} {i : Nat} {x : V}, DqA K H ds xs → xs[i]? = some x → ∃ d, ds[i]? = some d ∧ Dq K H d x
  | [], xs, i, d, h, e => by
    have e2 : xs = [] := h
    rw [e2] at e
    simp at e
  | d0 :: ds, xs, 0, d, h, e => by
    obtain ⟨x, r, h1, h2, h3⟩ := h
    rw [h1] at e
    simp at e
    subst e
    exact ⟨d0, rfl, h2⟩
  | d0 :: ds, xs, i + 1, d, h, e => by
    obtain ⟨x, r, h1, h2, h3⟩ := h
    rw [h1] at e
    obtain ⟨y, e1, e2⟩ := DqA.getV (i := i) h3 (by simpa using e)
    exact ⟨y, by simpa using e1, e2⟩
theorem DqA.append : ∀ {ds es : List D} {xs ys : List V}, DqA K H ds xs → DqA K H es ys → DqA K H (ds ++ es) (xs ++ ys)
  | [], es, xs, ys, h, q => by
    have e2 : xs = [] := h
    rw [e2]
    exact q
  | d :: ds, es, xs, ys, h, q => by
    obtain ⟨x, r, h1, h2, h3⟩ := h
    subst h1
    exact ⟨x, r ++ ys, rfl, h2, DqA.append h3 q⟩
theorem DqA.set : ∀ {ds : List D} {xs : List V} {i : Nat} {d : D} {x : V}, DqA K H ds xs → Dq K H d x → DqA K H (ds.set i d) (xs.set i x)
  | [], xs, i, d, x, h, q => by
    have e2 : xs = [] := h
    rw [e2]
    rfl
  | d0 :: ds, xs, 0, d, x, h, q => by
    obtain ⟨y, r, h1, h2, h3⟩ := h
    subst h1
    exact ⟨x, r, rfl, q, h3⟩
  | d0 :: ds, xs, i + 1, d, x, h, q => by
    obtain ⟨y, r, h1, h2, h3⟩ := h
    subst h1
    exact ⟨y, r.set i x, rfl, h2, DqA.set h3 q⟩
theorem DqA.drop : ∀ {ds : List D} {xs : List V} (n : Nat), DqA K H ds xs → DqA K H (ds.drop n) (xs.drop n)
  | ds, xs, 0, h => h
  | [], xs, n + 1, h => by
    have e2 : xs = [] := h
    rw [e2]
    rfl
  | d :: ds, xs, n + 1, h => by
    obtain ⟨x, r, h1, h2, h3⟩ := h
    subst h1
    exact DqA.drop n h3
theorem DqA.take : ∀ {ds : List D} {xs : List V} (n : Nat), DqA K H ds xs → DqA K H (ds.take n) (xs.take n)
  | ds, xs, 0, h => by
    rw [List.take_zero, List.take_zero]
    rfl
  | [], xs, n + 1, h => by
    have e2 : xs = [] := h
    rw [e2]
    rfl
  | d :: ds, xs, n + 1, h => by
    obtain ⟨x, r, h1, h2, h3⟩ := h
    subst h1
    exact ⟨x, r.take n, rfl, h2, DqA.take n h3⟩
theorem dqa_nil : DqA K H [] [] := rfl
theorem dqa_ints : ∀ (ns : List Int), DqA K H (ns.map D.int) (ns.map V.int)
  | [] => rfl
  | n :: ns => ⟨.int n, ns.map V.int, rfl, rfl, dqa_ints ns⟩
theorem of_dqa_ints : ∀ (ns : List Int) (xs : List V), DqA K H (ns.map D.int) xs → xs = ns.map V.int
  | [], xs, h => h
  | n :: ns, xs, h => by
    obtain ⟨x, r, h1, h2, h3⟩ := h
    have e : x = .int n := h2
    rw [h1, e, of_dqa_ints ns r h3]
    rfl
theorem of_dqa_bls : ∀ (ns : List Bool) (xs : List V), DqA K H (ns.map D.bl) xs → xs = ns.map V.bl
  | [], xs, h => h
  | n :: ns, xs, h => by
    obtain ⟨x, r, h1, h2, h3⟩ := h
    have e : x = .bl n := h2
    rw [h1, e, of_dqa_bls ns r h3]
    rfl
end

/-! ### slots -/
inductive Sl where
  | no
  | pu (d : D)
  | ow (p : Addr) (xs : List D)
abbrev Ss := List Sl
def Sl.d : Sl → D
  | .no => .ob fun _ _ => True
  | .pu d => d
  | .ow _ xs => .lst xs
def SlOk (K : PySem.W.Frag) (F H : Hp) : Sl → Option V → Prop
  | .no, _ => True
  | .pu d, o => ∃ v, o = some v ∧ Dq K F d v
  | .ow p xs, o => o = some (.ref p) ∧ F p = none ∧ ∃ vs, H p = some (.lst vs) ∧ DqA K F xs vs
def Own (s : Ss) (p : Addr) : Prop := ∃ (i : Nat) (xs : List D), s[i]? = some (.ow p xs)
structure StOk (K : PySem.W.Frag) (F H : Hp) (σ : L2.St) (s : Ss) : Prop where
  le : Same F H
  len : σ.length = s.length
  ok : ∀ (i : Nat) (l : Sl) (o : Option V), s[i]? = some l → σ[i]? = some o → SlOk K F H l o
  un : ∀ (i j : Nat) (p : Addr) (xs ys : List D), s[i]? = some (.ow p xs) → s[j]? = some (.ow p ys) → i = j
/-- from the state s with F, H to s' with F', H' -/
structure Step (K : PySem.W.Frag) (s : Ss) (F H : Hp) (s' : Ss) (F' H' : Hp) (σ' : L2.St) : Prop where
  st : StOk K F' H' σ' s'
  f : Same F F'
  k : ∀ a o, H a = some o → ¬ Own s a → H' a = some o
  t : ∀ a, H' a = none → H a = none
  n : ∀ a, F' a ≠ none → F a ≠ none ∨ H a = none ∨ Own s a
  o : ∀ p, Own s' p → Own s p ∨ H p = none
/-- a result -/
structure Rs (K : PySem.W.Frag) (s : Ss) (H F' H' : Hp) (s' : Ss) (r : Sl) (v : V) : Prop where
  ok : SlOk K F' H' r (some v)
  fr : ∀ p xs, r = .ow p xs → (H p = none ∨ Own s p) ∧ ¬ Own s' p
/-- new objects alone -/
structure Lf (K : PySem.W.Frag) (F H : Hp) (r : Sl) (v : V) (F' H' : Hp) : Prop where
  f : Same F F'
  h : Same H H'
  le : Same F' H'
  n : ∀ a, F' a ≠ none → F a ≠ none ∨ H a = none
  ok : SlOk K F' H' r (some v)
  fr : ∀ p xs, r = .ow p xs → H p = none
section
variable {K : PySem.W.Frag} {F H F' H' F1 H1 F2 H2 : Hp} {s s' s1 s2 : Ss} {σ σ' σ1 σ2 : L2.St} {r : Sl} {v : V}
theorem SlOk.mono (e : Same F F') (h : ∀ p xs, r = .ow p xs → ∀ vs, F p = none → H p = some (.lst vs) → F' p = none ∧ H' p = some (.lst vs)) {o : Option V} (q : SlOk K F H r o) : SlOk K F' H' r o := by
  cases r with
  | no => trivial
  | pu d =>
    obtain ⟨v, h1, h2⟩ := q
    exact ⟨v, h1, Dq.mono e _ _ h2⟩
  | ow p xs =>
    obtain ⟨h1, h2, vs, h3, h4⟩ := q
    obtain ⟨g1, g2⟩ := h p xs rfl vs h2 h3
    exact ⟨h1, g1, vs, g2, DqA.mono e _ _ h4⟩
theorem StOk.get (ok : StOk K F H σ s) {i : Nat} {l : Sl} (h : s[i]? = some l) : ∃ o, σ[i]? = some o ∧ SlOk K F H l o := by
  have hi : i < s.length := (List.getElem?_eq_some_iff.mp h).1
  have hi2 : i < σ.length := by
    rw [ok.len]
    exact hi
  have e : σ[i]? = some σ[i] := List.getElem?_eq_getElem hi2
  exact ⟨_, e, ok.ok i l _ h e⟩
theorem StOk.own (ok : StOk K F H σ s) {p : Addr} (h : Own s p) : F p = none ∧ ∃ vs, H p = some (.lst vs) := by
  obtain ⟨i, xs, e⟩ := h
  obtain ⟨o, _, h1, h2, vs, h3, _⟩ := ok.get e
  exact ⟨h2, vs, h3⟩
theorem Step.refl (ok : StOk K F H σ s) : Step K s F H s F H σ where
  st := ok
  f := Same.refl F
  k := fun _ _ h _ => h
  t := fun _ h => h
  n := fun _ h => .inl h
  o := fun _ h => .inl h
theorem Step.trans (a : Step K s F H s1 F1 H1 σ1) (b : Step K s1 F1 H1 s2 F2 H2 σ2) : Step K s F H s2 F2 H2 σ2 where
  st := b.st
  f := a.f.trans b.f
  k := fun x o h hn => b.k x o (a.k x o h hn) fun q => by
    rcases a.o x q with z | z
    · exact hn z
    · rw [h] at z
      cases z
  t := fun x h => a.t x (b.t x h)
  n := fun x h => by
    rcases b.n x h with z | z | z
    · exact a.n x z
    · exact .inr (.inl (a.t x z))
    · rcases a.o x z with y | y
      · exact .inr (.inr y)
      · exact .inr (.inl y)
  o := fun x h => by
    rcases b.o x h with z | z
    · exact a.o x z
    · exact .inr (a.t x z)
/-- a result stays through a further step -/
theorem Rs.keep (r1 : Rs K s H F1 H1 s1 r v) (b : Step K s1 F1 H1 s2 F2 H2 σ2) : Rs K s H F2 H2 s2 r v where
  ok := r1.ok.mono b.f fun p xs e vs h1 h2 => by
    have hn := (r1.fr p xs e).2
    refine ⟨?_, b.k p _ h2 hn⟩
    cases q : F2 p with
    | none => rfl
    | some o =>
      rcases b.n p (by rw [q]; intro z; cases z) with z | z | z
      · exact absurd h1 z
      · rw [h2] at z
        cases z
      · exact absurd z hn
  fr := fun p xs e => by
    refine ⟨(r1.fr p xs e).1, fun q => ?_⟩
    rcases b.o p q with z | z
    · exact (r1.fr p xs e).2 z
    · have h := r1.ok
      rw [e] at h
      obtain ⟨_, _, vs, h3, _⟩ := h
      rw [h3] at z
      cases z
/-- a new list is from now on a value -/
theorem Step.freeze (a : Step K s F H s1 F1 H1 σ1) (r1 : Rs K s H F1 H1 s1 r v) : ∃ F2, Step K s F H s1 F2 H1 σ1 ∧ Same F1 F2 ∧ Dq K F2 r.d v := by
  cases r with
  | no => exact ⟨F1, a, Same.refl _, fun _ _ => trivial⟩
  | pu d =>
    obtain ⟨w, h1, h2⟩ := r1.ok
    cases h1
    exact ⟨F1, a, Same.refl _, h2⟩
  | ow p xs =>
    obtain ⟨h1, h2, vs, h3, h4⟩ := r1.ok
    obtain ⟨g1, g2⟩ := r1.fr p xs rfl
    have e1 : Same F1 (upd F1 p (.lst vs)) := fun b o q => by
      rw [upd_ne (ne_of_none q h2)]
      exact q
    have e2 : Same (upd F1 p (.lst vs)) H1 := fun b o q => by
      by_cases hb : b = p
      · subst hb
        rw [upd_same] at q
        cases q
        exact h3
      · rw [upd_ne hb] at q
        exact a.st.le b o q
    refine ⟨upd F1 p (.lst vs), ⟨⟨e2, a.st.len, fun i l o q1 q2 => ?_, a.st.un⟩, a.f.trans e1, a.k, a.t, fun b hb => ?_, a.o⟩, e1, ?_⟩
    · refine (a.st.ok i l o q1 q2).mono e1 fun q ys e us z1 z2 => ⟨?_, z2⟩
      have hq : q ≠ p := fun z => g2 ⟨i, ys, by rw [q1, e, z]⟩
      rw [upd_ne hq]
      exact z1
    · by_cases hb2 : b = p
      · subst hb2
        rcases g1 with z | z
        · exact .inr (.inl z)
        · exact .inr (.inr z)
      · rw [upd_ne hb2] at hb
        exact a.n b hb
    · cases h1
      exact ⟨p, vs, rfl, upd_same, DqA.mono e1 _ _ h4⟩
/-- new objects behind a step -/
theorem Step.leaf (a : Step K s F H s1 F1 H1 σ1) (b : Lf K F1 H1 r v F2 H2) : Step K s F H s1 F2 H2 σ1 ∧ Rs K s H F2 H2 s1 r v := by
  have keep : ∀ p vs, F1 p = none → H1 p = some (.lst vs) → F2 p = none ∧ H2 p = some (.lst vs) := fun p vs h1 h2 => by
    refine ⟨?_, b.h p _ h2⟩
    cases q : F2 p with
    | none => rfl
    | some o =>
      rcases b.n p (by rw [q]; intro z; cases z) with z | z
      · exact absurd h1 z
      · rw [h2] at z
        cases z
  refine ⟨⟨⟨b.le, a.st.len, fun i l o q1 q2 => (a.st.ok i l o q1 q2).mono b.f fun p xs e vs h1 h2 => keep p vs h1 h2, a.st.un⟩, a.f.trans b.f, fun x o h hn => b.h x o (a.k x o h hn), fun x h => a.t x (b.h.free h), fun x h => ?_, a.o⟩, ⟨b.ok, fun p xs e => ?_⟩⟩
  · rcases b.n x h with z | z
    · exact a.n x z
    · exact .inr (.inl (a.t x z))
  · have z := b.fr p xs e
    refine ⟨.inl (a.t p z), fun q => ?_⟩
    obtain ⟨_, vs, h3⟩ := a.st.own q
    rw [h3] at z
    cases z
theorem Lf.same (le : Same F H) (d : D) (v : V) (h : Dq K F d v) : Lf K F H (.pu d) v F H where
  f := Same.refl _
  h := Same.refl _
  le := le
  n := fun _ h => .inl h
  ok := ⟨v, rfl, h⟩
  fr := fun _ _ e => by cases e
theorem same_upd {H : Hp} {p : Addr} {o : HO} (h : H p = none) : Same H (upd H p o) := fun b x e => by
  rw [upd_ne (ne_of_none e h)]
  exact e
/-- a new list -/
theorem Lf.newL (le : Same F H) {p : Addr} (hp : H p = none) {xs : List D} {vs : List V} (h : DqA K F xs vs) : Lf K F H (.ow p xs) (.ref p) F (upd H p (.lst vs)) where
  f := Same.refl _
  h := same_upd hp
  le := le.trans (same_upd hp)
  n := fun _ h => .inl h
  ok := ⟨rfl, le.free hp, vs, upd_same, h⟩
  fr := fun q ys e => by
    cases e
    exact hp
/-- a new tuple -/
theorem Lf.newT (le : Same F H) {p : Addr} (hp : H p = none) {xs : List D} {vs : List V} (h : DqA K F xs vs) : Lf K F H (.pu (.tup xs)) (.ref p) (upd F p (.tup vs)) (upd H p (.tup vs)) where
  f := same_upd (le.free hp)
  h := same_upd hp
  le := fun b o q => by
    by_cases hb : b = p
    · subst hb
      rw [upd_same] at q ⊢
      exact q
    · rw [upd_ne hb] at q ⊢
      exact le b o q
  n := fun b hb => by
    by_cases hb2 : b = p
    · subst hb2
      exact .inr hp
    · rw [upd_ne hb2] at hb
      exact .inl hb
  ok := ⟨_, rfl, p, vs, rfl, SqT.of upd_same, DqA.mono (same_upd (le.free hp)) _ _ h⟩
  fr := fun q ys e => by cases e
end
end DL

namespace DL
open PySem L2

/-! ### readings over data -/
abbrev AE := Ss → (Sl → Ss → Prop) → Prop
abbrev AT := Ss → (Bool → Ss → Prop) → Prop
abbrev AA := Ss → (List D → Ss → Prop) → Prop
structure AEnds where
  nx : Ss → Prop
  rt : Sl → Ss → Prop
  bk : Ss → Prop
  ct : Ss → Prop
abbrev AS := AEnds → Ss → Prop
abbrev AG := D → Ss → (Ss → Prop) → Prop
abbrev AGs := List D → Ss → (Ss → Prop) → Prop
abbrev AI := Ss → (List D → Ss → Prop) → Prop
abbrev AR2 := D → D → (Sl → Prop) → Prop
abbrev ARC := List D → (Sl → Prop) → Prop

def Sim (K : PySem.W.Frag) (te : TE) (a : AE) : Prop := ∀ s P, a s P → ∀ σ F H, StOk K F H σ s → ∀ Q : VK,
  (∀ r s' v F' H', P r s' → Step K s F H s' F' H' σ → Rs K s H F' H' s' r v → Q v H') → te σ H Q
def SimT (K : PySem.W.Frag) (tt : TT) (a : AT) : Prop := ∀ s P, a s P → ∀ σ F H, StOk K F H σ s → ∀ Q : Bool → Hp → Prop,
  (∀ b s' F' H', P b s' → Step K s F H s' F' H' σ → Q b H') → tt σ H Q
def SimA (K : PySem.W.Frag) (ta : TA) (a : AA) : Prop := ∀ s P, a s P → ∀ σ F H, StOk K F H σ s → ∀ Q : List V → Hp → Prop,
  (∀ ds s' vs F' H', P ds s' → Step K s F H s' F' H' σ → DqA K F' ds vs → Q vs H') → ta σ H Q
def SimS (K : PySem.W.Frag) (ts : TS) (a : AS) : Prop := ∀ A s, a A s → ∀ σ F H, StOk K F H σ s → ∀ E : Ends,
  (∀ s' σ' F' H', A.nx s' → Step K s F H s' F' H' σ' → E.nx σ' H') →
  (∀ r s' σ' v F' H', A.rt r s' → Step K s F H s' F' H' σ' → Rs K s H F' H' s' r v → E.rt v H') →
  (∀ s' σ' F' H', A.bk s' → Step K s F H s' F' H' σ' → E.bk σ' H') →
  (∀ s' σ' F' H', A.ct s' → Step K s F H s' F' H' σ' → E.ct σ' H') → ts E σ H
/-- a target: L the slots that it stores to -/
def SimG (K : PySem.W.Frag) (g : TG) (a : AG) (L : List Nat) : Prop := ∀ d s P, a d s P → ∀ v σ F H, StOk K F H σ s → Dq K F d v → ∀ Q : L2.St → Hp → Prop,
  (∀ s' σ', P s' → Step K s F H s' F H σ' → (∀ j, j ∉ L → σ'[j]? = σ[j]?) → σ'.length = σ.length → Q σ' H) → g v σ H Q
def SimGs (K : PySem.W.Frag) (g : TGs) (a : AGs) (L : List Nat) : Prop := ∀ ds s P, a ds s P → ∀ vs σ F H, StOk K F H σ s → DqA K F ds vs → ∀ Q : L2.St → Hp → Prop,
  (∀ s' σ', P s' → Step K s F H s' F H σ' → (∀ j, j ∉ L → σ'[j]? = σ[j]?) → σ'.length = σ.length → Q σ' H) → g vs σ H Q
/-- what an iterator gives while F stands -/
def Yields (K : PySem.W.Frag) (J : It) (F : Hp) (ds : List D) : Prop := ∃ (G : Hp → Prop) (Y : Nat → Hp → V → Hp → Prop), Walk J ds.length G Y ∧ (∀ H, Same F H → G H) ∧
  ∀ i H x H', Same F H → Y i H x H' → ∀ d, ds[i]? = some d → ∀ F1, Same F F1 → Same F1 H → ∃ F2, Lf K F1 H (.pu d) x F2 H'
def SimI (K : PySem.W.Frag) (wi : TI) (a : AI) : Prop := ∀ s P, a s P → ∀ σ F H, StOk K F H σ s → ∀ R : It → Hp → Prop,
  (∀ ds s' J F' H', P ds s' → Step K s F H s' F' H' σ → Yields K J F' ds → R J H') → wi σ H R
/-- by values -/
def RD (K : PySem.W.Frag) (r : R2) (a : AR2) : Prop := ∀ d e P, a d e P → ∀ F H x y, Same F H → Dq K F d x → Dq K F e y → ∀ Q : VK, (∀ rs v F' H', P rs → Lf K F H rs v F' H' → Q v H') → r x y H Q
def RC (K : PySem.W.Frag) (r : List V → Hp → VK → Prop) (a : ARC) : Prop := ∀ ds P, a ds P → ∀ F H xs, Same F H → DqA K F ds xs → ∀ Q : VK, (∀ rs v F' H', P rs → Lf K F H rs v F' H' → Q v H') → r xs H Q

section
variable {K : PySem.W.Frag} {te ta tb tc : TE} {a aa ab ac : AE} {F H : Hp} {s : Ss} {σ : L2.St}
theorem Sim.d (h : Sim K te a) {P : Sl → Ss → Prop} (q : a s P) (ok : StOk K F H σ s) {Q : VK} (k : ∀ r s' v F' H', P r s' → Step K s F H s' F' H' σ → Dq K F' r.d v → Q v H') : te σ H Q :=
  h s P q σ F H ok Q fun r s' v F' H' p st rs => by
    obtain ⟨F2, st2, _, d⟩ := st.freeze rs
    exact k r s' v F2 H' p st2 d
theorem Rs.pu {s' : Ss} {F' H' : Hp} {d : D} {v : V} (h : Dq K F' d v) : Rs K s H F' H' s' (.pu d) v := ⟨⟨v, rfl, h⟩, fun _ _ e => by cases e⟩
theorem Rs.more {s' s1 : Ss} {F' H' H1 F1 : Hp} {r : Sl} {v : V} {σ1 : L2.St} (st : Step K s F H s1 F1 H1 σ1) (rs : Rs K s1 H1 F' H' s' r v) : Rs K s H F' H' s' r v := ⟨rs.ok, fun p xs e => by
  obtain ⟨g1, g2⟩ := rs.fr p xs e
  refine ⟨?_, g2⟩
  rcases g1 with z | z
  · exact .inl (st.t p z)
  · rcases st.o p z with y | y
    · exact .inr y
    · exact .inl y⟩

/-! ### names and constants -/
def aVar (i : Nat) : AE := fun s P => match s[i]? with
  | some (.pu d) => P (.pu d) s
  | some (.ow _ xs) => P (.pu (.lst xs)) (s.set i (.pu (.lst xs)))
  | _ => False
def aMov (i : Nat) : AE := fun s P => match s[i]? with
  | some (.ow p xs) => P (.ow p xs) (s.set i .no)
  | _ => False
def aC (d : D) : AE := fun s P => P (.pu d) s
theorem sim_c {d : D} {v : V} (h : ∀ F, Dq K F d v) : Sim K (tC v) (aC d) := fun s P q σ F H ok Q k => k (.pu d) s v F H q (.refl ok) (.pu (h F))
/-- a slot gets a value -/
theorem StOk.put {F H : Hp} {σ : L2.St} {s : Ss} {i : Nat} {v : V} {l : Sl} (ok : StOk K F H σ s) (h : SlOk K F H l (some v)) (hn : ∀ p xs, l = .ow p xs → ¬ Own s p) : StOk K F H (σ.set i (some v)) (s.set i l) where
  le := ok.le
  len := by rw [List.length_set, List.length_set, ok.len]
  ok := fun j l2 o h1 h2 => by
    rw [List.getElem?_set] at h1 h2
    by_cases e : i = j
    · subst e
      rw [if_pos rfl] at h1 h2
      split at h1
      · split at h2
        · cases h1
          cases h2
          exact h
        · cases h2
      · cases h1
    · rw [if_neg e] at h1 h2
      exact ok.ok j l2 o h1 h2
  un := fun j k p xs ys h1 h2 => by
    rw [List.getElem?_set] at h1 h2
    by_cases e : i = j
    · subst e
      rw [if_pos rfl] at h1
      split at h1
      · cases h1
        by_cases e2 : i = k
        · exact e2
        · rw [if_neg e2] at h2
          exact absurd ⟨k, ys, h2⟩ (hn p xs rfl)
      · cases h1
    · rw [if_neg e] at h1
      by_cases e2 : i = k
      · subst e2
        rw [if_pos rfl] at h2
        split at h2
        · cases h2
          exact absurd ⟨j, xs, h1⟩ (hn p ys rfl)
        · cases h2
      · rw [if_neg e2] at h2
        exact ok.un j k p xs ys h1 h2
/-- a slot is forgotten, or told anew -/
theorem StOk.tell {F H : Hp} {σ : L2.St} {s : Ss} {i : Nat} {l : Sl} (ok : StOk K F H σ s) (h : ∀ o, σ[i]? = some o → SlOk K F H l o) (hn : ∀ p xs, l = .ow p xs → ∃ ys, s[i]? = some (.ow p ys)) : StOk K F H σ (s.set i l) where
  le := ok.le
  len := by rw [List.length_set, ok.len]
  ok := fun j l2 o h1 h2 => by
    rw [List.getElem?_set] at h1
    by_cases e : i = j
    · subst e
      rw [if_pos rfl] at h1
      split at h1
      · cases h1
        exact h o h2
      · cases h1
    · rw [if_neg e] at h1
      exact ok.ok j l2 o h1 h2
  un := fun j k p xs ys h1 h2 => by
    have back : ∀ (m : Nat) (zs : List D), (s.set i l)[m]? = some (Sl.ow p zs) → ∃ ws, s[m]? = some (Sl.ow p ws) := fun m zs h => by
      rw [List.getElem?_set] at h
      by_cases e : i = m
      · subst e
        rw [if_pos rfl] at h
        split at h
        · cases h
          exact hn p zs rfl
        · cases h
      · rw [if_neg e] at h
        exact ⟨zs, h⟩
    obtain ⟨w1, g1⟩ := back j xs h1
    obtain ⟨w2, g2⟩ := back k ys h2
    exact ok.un j k p w1 w2 g1 g2
theorem own_set {s : Ss} {i : Nat} {l : Sl} {p : Addr} (h : Own (s.set i l) p) : Own s p ∨ ∃ xs, l = .ow p xs := by
  obtain ⟨j, xs, e⟩ := h
  rw [List.getElem?_set] at e
  by_cases e2 : i = j
  · rw [if_pos e2] at e
    split at e
    · cases e
      exact .inr ⟨xs, rfl⟩
    · cases e
  · rw [if_neg e2] at e
    exact .inl ⟨j, xs, e⟩
theorem sim_var {i : Nat} : Sim K (tVar i) (aVar i) := fun s P q σ F H ok Q k => by
  unfold aVar at q
  cases e : s[i]? with
  | none =>
    rw [e] at q
    exact q.elim
  | some l =>
    rw [e] at q
    obtain ⟨o, h1, h2⟩ := ok.get e
    cases l with
    | no => exact q.elim
    | pu d =>
      obtain ⟨v, rfl, h3⟩ := h2
      exact ⟨v, h1, k (.pu d) s v F H q (.refl ok) (.pu h3)⟩
    | ow p xs =>
      obtain ⟨rfl, g1, vs, g2, g3⟩ := h2
      refine ⟨.ref p, h1, ?_⟩
      have e1 : Same F (upd F p (.lst vs)) := same_upd g1
      have e2 : Same (upd F p (.lst vs)) H := fun b o q => by
        by_cases hb : b = p
        · subst hb
          rw [upd_same] at q
          cases q
          exact g2
        · rw [upd_ne hb] at q
          exact ok.le b o q
      have dv : Dq K (upd F p (.lst vs)) (.lst xs) (.ref p) := ⟨p, vs, rfl, upd_same, DqA.mono e1 _ _ g3⟩
      refine k (.pu (.lst xs)) _ (.ref p) (upd F p (.lst vs)) H q ⟨⟨e2, by rw [List.length_set, ok.len], fun j l2 o h3 h4 => ?_, fun j m p2 ys zs h3 h4 => ?_⟩, e1, fun a o h _ => h, fun a h => h, fun a h => ?_, fun p2 h => ?_⟩ (.pu dv)
      · rw [List.getElem?_set] at h3
        by_cases e3 : i = j
        · subst e3
          rw [if_pos rfl] at h3
          split at h3
          · cases h3
            rw [h1] at h4
            cases h4
            exact ⟨_, rfl, dv⟩
          · cases h3
        · rw [if_neg e3] at h3
          refine (ok.ok j l2 o h3 h4).mono e1 fun p3 zs e4 us z1 z2 => ⟨?_, z2⟩
          have hp : p3 ≠ p := fun z => by
            subst z
            rw [e4] at h3
            exact e3 (ok.un i j p3 xs zs e h3)
          rw [upd_ne hp]
          exact z1
      · rw [List.getElem?_set] at h3 h4
        by_cases e3 : i = j
        · rw [if_pos e3] at h3
          split at h3 <;> cases h3
        · rw [if_neg e3] at h3
          by_cases e4 : i = m
          · rw [if_pos e4] at h4
            split at h4 <;> cases h4
          · rw [if_neg e4] at h4
            exact ok.un j m p2 ys zs h3 h4
      · by_cases hb : a = p
        · subst hb
          exact .inr (.inr ⟨i, xs, e⟩)
        · rw [upd_ne hb] at h
          exact .inl h
      · rcases own_set h with z | ⟨ys, z⟩
        · exact .inl z
        · cases z
theorem sim_mov {i : Nat} : Sim K (tVar i) (aMov i) := fun s P q σ F H ok Q k => by
  unfold aMov at q
  cases e : s[i]? with
  | none =>
    rw [e] at q
    exact q.elim
  | some l =>
    rw [e] at q
    obtain ⟨o, h1, h2⟩ := ok.get e
    cases l with
    | no => exact q.elim
    | pu d => exact q.elim
    | ow p xs =>
      have h2' := h2
      obtain ⟨rfl, g1, vs, g2, g3⟩ := h2
      refine ⟨.ref p, h1, ?_⟩
      refine k (.ow p xs) _ (.ref p) F H q ⟨ok.tell (fun _ _ => trivial) (fun _ _ z => by cases z), Same.refl _, fun a o h _ => h, fun a h => h, fun a h => .inl h, fun p2 h => ?_⟩ ⟨h2', fun p2 ys z => ?_⟩
      · rcases own_set h with z | ⟨ys, z⟩
        · exact .inl z
        · cases z
      · cases z
        refine ⟨.inr ⟨i, xs, e⟩, fun h => ?_⟩
        obtain ⟨j, ys, e2⟩ := h
        rw [List.getElem?_set] at e2
        by_cases e3 : i = j
        · rw [if_pos e3] at e2
          split at e2 <;> cases e2
        · rw [if_neg e3] at e2
          exact e3 (ok.un i j _ _ _ e e2)

/-! ### operators -/
def aOp (r : AR2) (aa ab : AE) : AE := fun s P => aa s fun r1 s1 => ab s1 fun r2 s2 => r r1.d r2.d fun rs => P rs s2
theorem sim_op {r : R2} {ar : AR2} (hr : RD K r ar) (ha : Sim K ta aa) (hb : Sim K tb ab) : Sim K (tOp r ta tb) (aOp ar aa ab) := fun s P q σ F H ok Q k => by
  refine ha.d q ok fun r1 s1 v1 F1 H1 q1 st1 d1 => ?_
  refine hb.d q1 st1.st fun r2 s2 v2 F2 H2 q2 st2 d2 => ?_
  refine hr _ _ _ q2 F2 H2 v1 v2 st2.st.le (Dq.mono st2.f _ _ d1) d2 Q fun rs v F3 H3 p l => ?_
  obtain ⟨st3, rs3⟩ := (st1.trans st2).leaf l
  exact k rs s2 v F3 H3 p st3 rs3
def aIC (C : Int → Int → Prop) (f : Int → Int → Int) : AR2 := fun d e P => match d, e with
  | .int i, .int j => C i j ∧ P (.pu (.int (f i j)))
  | _, _ => False
def aI (f : Int → Int → Int) : AR2 := fun d e P => match d, e with
  | .int i, .int j => P (.pu (.int (f i j)))
  | _, _ => False
def aB (f : Int → Int → Bool) : AR2 := fun d e P => match d, e with
  | .int i, .int j => P (.pu (.bl (f i j)))
  | _, _ => False
theorem rd_ic {C : Int → Int → Prop} {f : Int → Int → Int} : RD K (rI C fun i j => .int (f i j)) (aIC C f) := fun d e P q F H x y le dx dy Q k => by
  cases d <;> cases e <;> first | exact q.elim | skip
  exact ⟨_, _, dx, dy, q.1, k _ _ F H q.2 (Lf.same le _ _ rfl)⟩
theorem rd_i {f : Int → Int → Int} : RD K (rI0 fun i j => .int (f i j)) (aI f) := fun d e P q F H x y le dx dy Q k => by
  cases d <;> cases e <;> first | exact q.elim | skip
  exact ⟨_, _, dx, dy, k _ _ F H q (Lf.same le _ _ rfl)⟩
theorem rd_b {f : Int → Int → Bool} : RD K (rI0 fun i j => .bl (f i j)) (aB f) := fun d e P q F H x y le dx dy Q k => by
  cases d <;> cases e <;> first | exact q.elim | skip
  exact ⟨_, _, dx, dy, k _ _ F H q (Lf.same le _ _ rfl)⟩
/-- == of scalars -/
def eqS : D → D → Option Bool
  | .int i, .int j => some (decide (i = j))
  | .str i, .str j => some (decide (i = j))
  | .bl i, .bl j => some (decide (i = j))
  | .non, .non => some true
  | .non, .int _ => some false
  | .int _, .non => some false
  | .non, .str _ => some false
  | .str _, .non => some false
  | .int _, .str _ => some false
  | .str _, .int _ => some false
  | .bl _, .str _ => some false
  | .str _, .bl _ => some false
  | _, _ => none
def aEq : AR2 := fun d e P => match eqS d e with | some b => P (.pu (.bl b)) | none => False
def aNe : AR2 := fun d e P => match eqS d e with | some b => P (.pu (.bl (!b))) | none => False
theorem eqS_ok {F : Hp} {d e : D} {b : Bool} {x y : V} (h : eqS d e = some b) (dx : Dq K F d x) (dy : Dq K F e y) : scal x y = true ∧ decide (x = y) = b := by
  cases d <;> cases e <;> first | (cases h; done) | skip
  all_goals
    cases (show x = _ from dx)
    cases (show y = _ from dy)
    cases h
    refine ⟨rfl, ?_⟩
    first
      | rfl
      | (apply decide_eq_decide.mpr; constructor <;> intro z <;> first | (cases z; rfl) | (rw [z]))
theorem rd_eq : RD K rEq aEq := fun d e P q F H x y le dx dy Q k => by
  unfold aEq at q
  cases h : eqS d e with
  | none =>
    rw [h] at q
    exact q.elim
  | some b =>
    rw [h] at q
    obtain ⟨h1, h2⟩ := eqS_ok h dx dy
    refine ⟨h1, ?_⟩
    rw [h2]
    exact k _ _ F H q (Lf.same le _ _ rfl)
theorem rd_ne : RD K rNe aNe := fun d e P q F H x y le dx dy Q k => by
  unfold aNe at q
  cases h : eqS d e with
  | none =>
    rw [h] at q
    exact q.elim
  | some b =>
    rw [h] at q
    obtain ⟨h1, h2⟩ := eqS_ok h dx dy
    refine ⟨h1, ?_⟩
    rw [h2]
    exact k _ _ F H q (Lf.same le _ _ rfl)
/-- is None -/
def isN : D → Option Bool
  | .non => some true
  | .ob _ => none
  | _ => some false
theorem isN_ok {F : Hp} {d : D} {b : Bool} {x : V} (h : isN d = some b) (dx : Dq K F d x) : decide (x = .non) = b := by
  cases d with
  | non =>
    cases h
    exact decide_eq_true dx
  | ob f => cases h
  | bl i =>
    cases h
    cases (show x = _ from dx)
    rfl
  | int i =>
    cases h
    cases (show x = _ from dx)
    rfl
  | str i =>
    cases h
    cases (show x = _ from dx)
    rfl
  | tup ds =>
    cases h
    obtain ⟨a, xs, rfl, _⟩ := dx
    rfl
  | lst ds =>
    cases h
    obtain ⟨a, xs, rfl, _⟩ := dx
    rfl
  | scr ds =>
    cases h
    obtain ⟨a, xs, rfl, _⟩ := dx
    rfl
def aIsN : AR2 := fun d e P => match e, isN d with | .non, some b => P (.pu (.bl b)) | _, _ => False
def aNotN : AR2 := fun d e P => match e, isN d with | .non, some b => P (.pu (.bl (!b))) | _, _ => False
theorem rd_isN : RD K (fun x y H Q => y = .non ∧ Q (.bl (decide (x = .non))) H) aIsN := fun d e P q F H x y le dx dy Q k => by
  unfold aIsN at q
  cases e <;> first | exact q.elim | skip
  cases h : isN d with
  | none =>
    rw [h] at q
    exact q.elim
  | some b =>
    rw [h] at q
    refine ⟨dy, ?_⟩
    rw [isN_ok h dx]
    exact k _ _ F H q (Lf.same le _ _ rfl)
theorem rd_notN : RD K (fun x y H Q => y = .non ∧ Q (.bl (!decide (x = .non))) H) aNotN := fun d e P q F H x y le dx dy Q k => by
  unfold aNotN at q
  cases e <;> first | exact q.elim | skip
  cases h : isN d with
  | none =>
    rw [h] at q
    exact q.elim
  | some b =>
    rw [h] at q
    refine ⟨dy, ?_⟩
    rw [isN_ok h dx]
    exact k _ _ F H q (Lf.same le _ _ rfl)
/-- in, not in: flat items -/
def flatD : D → Bool
  | .non => true
  | .bl _ => true
  | .int _ => true
  | .str _ => true
  | _ => false
def eqF : D → D → Bool
  | .non, .non => true
  | .bl a, .bl b => a == b
  | .bl a, .int b => (if a then 1 else 0) == b
  | .int a, .bl b => a == (if b then 1 else 0)
  | .int a, .int b => a == b
  | .str a, .str b => a == b
  | _, _ => false
def inF (x : D) (xs : List D) : Bool := xs.any fun y => eqF y x
def seqD : D → Option (List D)
  | .tup xs => some xs
  | .lst xs => some xs
  | .scr xs => some xs
  | _ => none
theorem seqD_ok {F : Hp} {d : D} {ds : List D} {x : V} (h : seqD d = some ds) (dx : Dq K F d x) : ∃ a xs, x = .ref a ∧ (SqL K F a xs ∨ SqT K F a xs) ∧ DqA K F ds xs := by
  cases d <;> first | (cases h; done) | skip
  · cases h
    obtain ⟨a, xs, h1, h2, h3⟩ := dx
    exact ⟨a, xs, h1, .inr h2, h3⟩
  · cases h
    obtain ⟨a, xs, h1, h2, h3⟩ := dx
    exact ⟨a, xs, h1, .inl (SqL.of h2), h3⟩
  · cases h
    obtain ⟨a, xs, h1, h2, h3⟩ := dx
    exact ⟨a, xs, h1, .inl h2, h3⟩
theorem flat_ok {F : Hp} {d : D} {x : V} (h : flatD d = true) (dx : Dq K F d x) : flatV x = true := by
  cases d <;> first | (cases h; done) | (cases (show x = _ from dx); rfl)
theorem flat_eq {F : Hp} {d e : D} {x y : V} (h : flatD d = true) (h2 : flatD e = true) (dx : Dq K F d x) (dy : Dq K F e y) : eqV x y = eqF d e := by
  cases d <;> first | (cases h; done) | skip
  all_goals
    cases (show x = _ from dx)
    cases e <;> first | (cases h2; done) | (cases (show y = _ from dy); rfl)
theorem flat_all {F : Hp} : ∀ {ds : List D} {xs : List V}, ds.all flatD = true → DqA K F ds xs → xs.all flatV = true
  | [], xs, _, h => by
    rw [show xs = [] from h]
    rfl
  | d :: ds, xs, hf, h => by
    obtain ⟨x, r, rfl, h2, h3⟩ := h
    rw [List.all_cons, Bool.and_eq_true] at hf
    rw [List.all_cons, flat_ok hf.1 h2, flat_all hf.2 h3]
    rfl
theorem flat_in {F : Hp} {e : D} {y : V} (h2 : flatD e = true) (dy : Dq K F e y) : ∀ {ds : List D} {xs : List V}, ds.all flatD = true → DqA K F ds xs → inV y xs = inF e ds
  | [], xs, _, h => by
    rw [show xs = [] from h]
    rfl
  | d :: ds, xs, hf, h => by
    obtain ⟨x, r, rfl, h4, h3⟩ := h
    rw [List.all_cons, Bool.and_eq_true] at hf
    have ih := flat_in h2 dy hf.2 h3
    unfold inV inF at ih ⊢
    rw [List.any_cons, List.any_cons, ih, flat_eq hf.1 h2 h4 dy]
def aIn (neg : Bool) : AR2 := fun d e P => match seqD e with
  | some ds => flatD d = true ∧ ds.all flatD = true ∧ P (.pu (.bl (if neg then !inF d ds else inF d ds)))
  | none => False
theorem rd_in {neg : Bool} : RD K (rIn K neg) (aIn neg) := fun d e P q F H x y le dx dy Q k => by
  unfold aIn at q
  cases h : seqD e with
  | none =>
    rw [h] at q
    exact q.elim
  | some ds =>
    rw [h] at q
    obtain ⟨q1, q2, q3⟩ := q
    obtain ⟨a, xs, rfl, h1, h2⟩ := seqD_ok h dy
    refine ⟨a, xs, rfl, ?_, flat_ok q1 dx, flat_all q2 h2, ?_⟩
    · rcases h1 with h1 | h1
      · exact .inl (Same.seq le h1)
      · exact .inr (Same.sqt le h1)
    · rw [flat_in q1 dx q2 h2]
      exact k _ _ F H q3 (Lf.same le _ _ rfl)
/-- x[i] -/
def aIx : AR2 := fun d e P => match seqD d, e with
  | some ds, .int i => match atI ds i with
    | some d => P (.pu d)
    | none => False
  | _, _ => False
theorem atI_ok {F : Hp} {ds : List D} {xs : List V} {i : Int} {d : D} (h : DqA K F ds xs) (e : atI ds i = some d) : ∃ x, atI xs i = some x ∧ Dq K F d x := by
  unfold atI at e ⊢
  rw [h.length]
  cases q : ixN ds.length i with
  | none =>
    rw [q] at e
    cases e
  | some j =>
    rw [q] at e
    exact h.get (i := j) e
theorem rd_ix : RD K (fun x y H Q => rIxL K x y H Q ∨ rIxT K x y H Q ∨ rIxS x y H Q) aIx := fun d e P q F H x y le dx dy Q k => by
  unfold aIx at q
  cases h : seqD d with
  | none =>
    rw [h] at q
    exact q.elim
  | some ds =>
    rw [h] at q
    cases e <;> first | exact q.elim | skip
    rename_i i
    cases h2 : atI ds i with
    | none =>
      simp only [h2] at q
    | some d2 =>
      simp only [h2] at q
      obtain ⟨a, xs, rfl, g1, g2⟩ := seqD_ok h dx
      obtain ⟨z, e1, e2⟩ := atI_ok g2 h2
      rcases g1 with g1 | g1
      · exact .inl ⟨a, xs, i, z, rfl, dy, Same.seq le g1, e1, k _ _ F H q (Lf.same le _ _ e2)⟩
      · exact .inr (.inl ⟨a, xs, i, z, rfl, dy, Same.sqt le g1, e1, k _ _ F H q (Lf.same le _ _ e2)⟩)
/-! ### arguments, calls -/
def aNil : AA := fun s P => P [] s
def aCons (a : AE) (r : AA) : AA := fun s P => a s fun r1 s1 => r s1 fun ds s2 => P (r1.d :: ds) s2
theorem sim_nil : SimA K tNil aNil := fun s P q σ F H ok Q k => k [] s [] F H q (.refl ok) rfl
theorem sim_cons {tr : TA} {ar : AA} (ha : Sim K ta aa) (hr : SimA K tr ar) : SimA K (tCons ta tr) (aCons aa ar) := fun s P q σ F H ok Q k => by
  refine ha.d q ok fun r1 s1 v1 F1 H1 q1 st1 d1 => ?_
  refine hr s1 _ q1 σ F1 H1 st1.st _ fun ds s2 vs F2 H2 q2 st2 d2 => ?_
  exact k (r1.d :: ds) s2 (v1 :: vs) F2 H2 q2 (st1.trans st2) ⟨v1, vs, rfl, Dq.mono st2.f _ _ d1, d2⟩
def aCall (r : ARC) (a : AA) : AE := fun s P => a s fun ds s1 => r ds fun rs => P rs s1
theorem sim_cb {r : List V → Hp → VK → Prop} {ar : ARC} {t : TA} {a : AA} (hr : RC K r ar) (ha : SimA K t a) : Sim K (tCB r t) (aCall ar a) := fun s P q σ F H ok Q k => by
  refine ha s _ q σ F H ok _ fun ds s1 vs F1 H1 q1 st1 d1 => ?_
  refine hr ds _ q1 F1 H1 vs st1.st.le d1 Q fun rs v F2 H2 p l => ?_
  obtain ⟨st2, rs2⟩ := st1.leaf l
  exact k rs s1 v F2 H2 p st2 rs2
def aTup (a : AA) : AE := fun s P => a s fun ds s1 => ds.length ≤ 100000 ∧ P (.pu (.tup ds)) s1
def aLst (a : AA) : AE := fun s P => a s fun ds s1 => ds.length ≤ 100000 ∧ ∀ p, P (.ow p ds) s1
theorem sz_of {n : Nat} (h : n ≤ 100000) : n ≤ sizeLine := Nat.le_trans h (by decide)
theorem sz_lt {n : Nat} (h : n < 100000) : n < sizeLine := Nat.lt_of_lt_of_le h (by decide)
theorem sim_tup {t : TA} {a : AA} (ha : SimA K t a) : Sim K (tTup t) (aTup a) := fun s P q σ F H ok Q k => by
  refine ha s _ q σ F H ok _ fun ds s1 vs F1 H1 q1 st1 d1 => ⟨?_, fun p hp => ?_⟩
  · rw [d1.length]
    exact sz_of q1.1
  · obtain ⟨st2, rs2⟩ := st1.leaf (Lf.newT st1.st.le hp d1)
    exact k _ s1 _ _ _ q1.2 st2 rs2
theorem sim_lst {t : TA} {a : AA} (ha : SimA K t a) : Sim K (tLst t) (aLst a) := fun s P q σ F H ok Q k => by
  refine ha s _ q σ F H ok _ fun ds s1 vs F1 H1 q1 st1 d1 => ⟨?_, fun p hp => ?_⟩
  · rw [d1.length]
    exact sz_of q1.1
  · obtain ⟨st2, rs2⟩ := st1.leaf (Lf.newL st1.st.le hp d1)
    exact k _ s1 _ _ _ (q1.2 p) st2 rs2

/-! ### tests -/
def aTest (a : AE) : AT := fun s P => a s fun r s1 => match r.d with
  | .bl b => P b s1
  | _ => False
theorem sim_test (h : Sim K te a) : SimT K (tTest te) (aTest a) := fun s P q σ F H ok Q k => by
  refine h.d q ok fun r s1 v F1 H1 q1 st1 d1 => ?_
  cases e : r.d <;> simp only [e] at q1
  rename_i b
  rw [e] at d1
  exact ⟨b, d1, k b s1 F1 H1 q1 st1⟩
theorem sim_B (h : Sim K te a) : SimT K (tB te) (aTest a) := sim_test h
def aAnd (a b : AT) : AT := fun s P => a s fun c s1 => if c = true then b s1 P else P false s1
def aOr (a b : AT) : AT := fun s P => a s fun c s1 => if c = true then P true s1 else b s1 P
def aNot (a : AT) : AT := fun s P => a s fun c s1 => P (!c) s1
section
variable {t u : TT} {at1 au : AT}
theorem sim_and (h : SimT K t at1) (h2 : SimT K u au) : SimT K (tAnd t u) (aAnd at1 au) := fun s P q σ F H ok Q k => by
  refine h s _ q σ F H ok _ fun c s1 F1 H1 q1 st1 => ?_
  cases c with
  | true => exact h2 s1 _ q1 σ F1 H1 st1.st _ fun b s2 F2 H2 q2 st2 => k b s2 F2 H2 q2 (st1.trans st2)
  | false => exact k false s1 F1 H1 q1 st1
theorem sim_or (h : SimT K t at1) (h2 : SimT K u au) : SimT K (tOr t u) (aOr at1 au) := fun s P q σ F H ok Q k => by
  refine h s _ q σ F H ok _ fun c s1 F1 H1 q1 st1 => ?_
  cases c with
  | true => exact k true s1 F1 H1 q1 st1
  | false => exact h2 s1 _ q1 σ F1 H1 st1.st _ fun b s2 F2 H2 q2 st2 => k b s2 F2 H2 q2 (st1.trans st2)
theorem sim_not (h : SimT K t at1) : SimT K (tNot t) (aNot at1) := fun s P q σ F H ok Q k => h s _ q σ F H ok _ fun c s1 F1 H1 q1 st1 => k (!c) s1 F1 H1 q1 st1
def aIf (c : AT) (a b : AE) : AE := fun s P => c s fun k s1 => if k = true then a s1 P else b s1 P
theorem sim_if (h : SimT K t at1) (ha : Sim K ta aa) (hb : Sim K tb ab) : Sim K (tIf t ta tb) (aIf at1 aa ab) := fun s P q σ F H ok Q k => by
  refine h s _ q σ F H ok _ fun c s1 F1 H1 q1 st1 => ?_
  cases c with
  | true => exact ha s1 _ q1 σ F1 H1 st1.st _ fun r s2 v F2 H2 q2 st2 rs => k r s2 v F2 H2 q2 (st1.trans st2) (rs.more st1)
  | false => exact hb s1 _ q1 σ F1 H1 st1.st _ fun r s2 v F2 H2 q2 st2 rs => k r s2 v F2 H2 q2 (st1.trans st2) (rs.more st1)
end
def aAndV (a b : AE) : AE := fun s P => a s fun r s1 => match r.d with
  | .bl c => if c = true then b s1 P else P (.pu (.bl false)) s1
  | _ => False
def aOrV (a b : AE) : AE := fun s P => a s fun r s1 => match r.d with
  | .bl c => if c = true then P (.pu (.bl true)) s1 else b s1 P
  | _ => False
def aNotV (a : AE) : AE := fun s P => a s fun r s1 => match r.d with
  | .bl c => P (.pu (.bl (!c))) s1
  | _ => False
theorem sim_andV (ha : Sim K ta aa) (hb : Sim K tb ab) : Sim K (tAndV ta tb) (aAndV aa ab) := fun s P q σ F H ok Q k => by
  refine ha.d q ok fun r s1 v F1 H1 q1 st1 d1 => ?_
  cases e : r.d <;> simp only [e] at q1
  rename_i c
  rw [e] at d1
  refine ⟨c, d1, ?_⟩
  cases c with
  | true => exact hb s1 _ q1 σ F1 H1 st1.st _ fun r s2 v F2 H2 q2 st2 rs => k r s2 v F2 H2 q2 (st1.trans st2) (rs.more st1)
  | false => exact k _ s1 _ F1 H1 q1 st1 (.pu rfl)
theorem sim_orV (ha : Sim K ta aa) (hb : Sim K tb ab) : Sim K (tOrV ta tb) (aOrV aa ab) := fun s P q σ F H ok Q k => by
  refine ha.d q ok fun r s1 v F1 H1 q1 st1 d1 => ?_
  cases e : r.d <;> simp only [e] at q1
  rename_i c
  rw [e] at d1
  refine ⟨c, d1, ?_⟩
  cases c with
  | true => exact k _ s1 _ F1 H1 q1 st1 (.pu rfl)
  | false => exact hb s1 _ q1 σ F1 H1 st1.st _ fun r s2 v F2 H2 q2 st2 rs => k r s2 v F2 H2 q2 (st1.trans st2) (rs.more st1)
theorem sim_notV (ha : Sim K ta aa) : Sim K (tNotV ta) (aNotV aa) := fun s P q σ F H ok Q k => by
  refine ha.d q ok fun r s1 v F1 H1 q1 st1 d1 => ?_
  cases e : r.d <;> simp only [e] at q1
  rename_i c
  rw [e] at d1
  exact ⟨c, d1, k _ s1 _ F1 H1 q1 st1 (.pu rfl)⟩
/-- a op b op c -/
def aChain (r r' : AR2) (aa ab ac : AE) : AE := fun s P => aa s fun r1 s1 => ab s1 fun r2 s2 => r r1.d r2.d fun z => match z with
  | .pu (.bl c) => if c = true then ac s2 fun r3 s3 => r' r2.d r3.d fun rs => P rs s3 else P (.pu (.bl false)) s2
  | _ => False
theorem sim_chain {r r' : R2} {ar ar' : AR2} (hr : RD K r ar) (hr' : RD K r' ar') (ha : Sim K ta aa) (hb : Sim K tb ab) (hc : Sim K tc ac) : Sim K (tChain r r' ta tb tc) (aChain ar ar' aa ab ac) := fun s P q σ F H ok Q k => by
  refine ha.d q ok fun r1 s1 v1 F1 H1 q1 st1 d1 => ?_
  refine hb.d q1 st1.st fun r2 s2 v2 F2 H2 q2 st2 d2 => ?_
  refine hr _ _ _ q2 F2 H2 v1 v2 st2.st.le (Dq.mono st2.f _ _ d1) d2 _ fun rs v F3 H3 p l => ?_
  obtain ⟨st3, rs3⟩ := (st1.trans st2).leaf l
  cases rs with
  | no => exact p.elim
  | ow _ _ => exact p.elim
  | pu d =>
    cases d <;> simp only at p
    rename_i c
    obtain ⟨w, e1, e2⟩ := rs3.ok
    cases e1
    refine ⟨c, e2, ?_⟩
    cases c with
    | false => exact k _ s2 _ F3 H3 p st3 (.pu rfl)
    | true =>
      refine hc.d p st3.st fun r3 s3 v3 F4 H4 q4 st4 d4 => ?_
      refine hr' _ _ _ q4 F4 H4 v2 v3 st4.st.le (Dq.mono (l.f.trans st4.f) _ _ d2) d4 Q fun rs v F5 H5 p l => ?_
      obtain ⟨st5, rs5⟩ := (st3.trans st4).leaf l
      exact k rs s3 v F5 H5 p st5 rs5
end
end DL

namespace DL
open PySem L2

section
variable {K : PySem.W.Frag} {te ta tb tc : TE} {a aa ab ac : AE} {F H : Hp} {s : Ss} {σ : L2.St} {ts tu : TS} {as au : AS} {c : TT} {ac1 : AT}
/-! ### statements -/
def aNext : AS := fun A s => A.nx s
def aSeq (t u : AS) : AS := fun A s => t { A with nx := u A } s
def aBrk : AS := fun A s => A.bk s
def aCnt : AS := fun A s => A.ct s
def aDrop (a : AE) : AS := fun A s => a s fun _ s1 => A.nx s1
def aRet (a : AE) : AS := fun A s => a s fun r s1 => A.rt r s1
def aRetN : AS := fun A s => A.rt (.pu .non) s
def aIfS (c : AT) (t u : AS) : AS := fun A s => c s fun b s1 => if b = true then t A s1 else u A s1
def aNev : AS := fun _ _ => False
theorem sims_next : SimS K tNext aNext := fun A s q σ F H ok E kn kr kb kc => kn s σ F H q (.refl ok)
theorem sims_brk : SimS K tBreak aBrk := fun A s q σ F H ok E kn kr kb kc => kb s σ F H q (.refl ok)
theorem sims_cnt : SimS K tCont aCnt := fun A s q σ F H ok E kn kr kb kc => kc s σ F H q (.refl ok)
theorem sims_nev : SimS K tNever aNev := fun A s q σ F H ok E kn kr kb kc => q.elim
theorem sims_seq (h1 : SimS K ts as) (h2 : SimS K tu au) : SimS K (tSeq ts tu) (aSeq as au) := fun A s q σ F H ok E kn kr kb kc =>
  h1 { A with nx := au A } s q σ F H ok { E with nx := tu E } (fun s1 σ1 F1 H1 q1 st1 => h2 A s1 q1 σ1 F1 H1 st1.st E (fun s2 σ2 F2 H2 q2 st2 => kn s2 σ2 F2 H2 q2 (st1.trans st2))
    (fun r s2 σ2 v F2 H2 q2 st2 rs => kr r s2 σ2 v F2 H2 q2 (st1.trans st2) (rs.more st1)) (fun s2 σ2 F2 H2 q2 st2 => kb s2 σ2 F2 H2 q2 (st1.trans st2)) (fun s2 σ2 F2 H2 q2 st2 => kc s2 σ2 F2 H2 q2 (st1.trans st2))) kr kb kc
theorem sims_drop (h : Sim K te a) : SimS K (tDrop te) (aDrop a) := fun A s q σ F H ok E kn kr kb kc => h s _ q σ F H ok _ fun r s1 v F1 H1 q1 st1 _ => kn s1 σ F1 H1 q1 st1
theorem sims_ret (h : Sim K te a) : SimS K (tRet te) (aRet a) := fun A s q σ F H ok E kn kr kb kc => h s _ q σ F H ok _ fun r s1 v F1 H1 q1 st1 rs => kr r s1 σ v F1 H1 q1 st1 rs
theorem sims_retN : SimS K tRetN aRetN := fun A s q σ F H ok E kn kr kb kc => kr (.pu .non) s σ .non F H q (.refl ok) (.pu rfl)
theorem sims_if (h : SimT K c ac1) (h1 : SimS K ts as) (h2 : SimS K tu au) : SimS K (tIfS c ts tu) (aIfS ac1 as au) := fun A s q σ F H ok E kn kr kb kc => by
  refine h s _ q σ F H ok _ fun b s1 F1 H1 q1 st1 => ?_
  cases b with
  | true =>
    exact h1 A s1 q1 σ F1 H1 st1.st E (fun s2 σ2 F2 H2 q2 st2 => kn s2 σ2 F2 H2 q2 (st1.trans st2))
      (fun r s2 σ2 v F2 H2 q2 st2 rs => kr r s2 σ2 v F2 H2 q2 (st1.trans st2) (rs.more st1)) (fun s2 σ2 F2 H2 q2 st2 => kb s2 σ2 F2 H2 q2 (st1.trans st2)) (fun s2 σ2 F2 H2 q2 st2 => kc s2 σ2 F2 H2 q2 (st1.trans st2))
  | false =>
    exact h2 A s1 q1 σ F1 H1 st1.st E (fun s2 σ2 F2 H2 q2 st2 => kn s2 σ2 F2 H2 q2 (st1.trans st2))
      (fun r s2 σ2 v F2 H2 q2 st2 rs => kr r s2 σ2 v F2 H2 q2 (st1.trans st2) (rs.more st1)) (fun s2 σ2 F2 H2 q2 st2 => kb s2 σ2 F2 H2 q2 (st1.trans st2)) (fun s2 σ2 F2 H2 q2 st2 => kc s2 σ2 F2 H2 q2 (st1.trans st2))
/-! ### stores to names -/
/-- behind a store to a slot -/
theorem Step.put {s1 : Ss} {F1 H1 : Hp} {r : Sl} {v : V} {i : Nat} (st : Step K s F H s1 F1 H1 σ) (rs : Rs K s H F1 H1 s1 r v) : Step K s F H (s1.set i r) F1 H1 (σ.set i (some v)) where
  st := st.st.put rs.ok fun p xs e => (rs.fr p xs e).2
  f := st.f
  k := st.k
  t := st.t
  n := st.n
  o := fun p h => by
    rcases own_set h with z | ⟨xs, z⟩
    · exact st.o p z
    · exact (rs.fr p xs z).1.symm
def aSet (i : Nat) (a : AE) : AS := fun A s => a s fun r s1 => A.nx (s1.set i r)
theorem sims_set {i : Nat} (h : Sim K te a) : SimS K (tAsg te (gName i)) (aSet i a) := fun A s q σ F H ok E kn kr kb kc =>
  h s _ q σ F H ok _ fun r s1 v F1 H1 q1 st1 rs => kn _ _ F1 H1 q1 (st1.put rs)
def aAsg (a : AE) (g : AG) : AS := fun A s => a s fun r s1 => g r.d s1 A.nx
theorem sims_asg {g : TG} {ag : AG} {L : List Nat} (h : Sim K te a) (hg : SimG K g ag L) : SimS K (tAsg te g) (aAsg a ag) := fun A s q σ F H ok E kn kr kb kc =>
  h.d q ok fun r s1 v F1 H1 q1 st1 d1 => hg _ _ _ q1 v σ F1 H1 st1.st d1 _ fun s2 σ2 q2 st2 _ _ => kn s2 σ2 F1 H1 q2 (st1.trans st2)
def agName (i : Nat) : AG := fun d s P => P (s.set i (.pu d))
theorem simg_name {i : Nat} : SimG K (gName i) (agName i) [i] := fun d s P q v σ F H ok dv Q k => by
  refine k _ _ q ((Step.refl ok).put (r := .pu d) (.pu dv)) (fun j hj => ?_) (List.length_set ..)
  rw [List.getElem?_set, if_neg fun e => hj (by rw [e]; exact List.mem_singleton.mpr rfl)]
def agNil : AGs := fun ds s P => ds = [] ∧ P s
def agCons (g : AG) (r : AGs) : AGs := fun ds s P => match ds with
  | d :: ds => g d s fun s1 => r ds s1 P
  | [] => False
theorem simgs_nil : SimGs K gNil agNil [] := fun ds s P q vs σ F H ok dv Q k => by
  obtain ⟨rfl, q⟩ := q
  exact ⟨dv, k s σ q (.refl ok) (fun _ _ => rfl) rfl⟩
theorem simgs_cons {g : TG} {ag : AG} {L M : List Nat} {gs : TGs} {ags : AGs} (h : SimG K g ag L) (hr : SimGs K gs ags M) : SimGs K (gCons g gs) (agCons ag ags) (L ++ M) := fun ds s P q vs σ F H ok dv Q k => by
  cases ds with
  | nil => exact q.elim
  | cons d ds =>
    obtain ⟨x, r, rfl, h2, h3⟩ := dv
    refine ⟨x, r, rfl, ?_⟩
    refine h d s _ q x σ F H ok h2 _ fun s1 σ1 q1 st1 e1 l1 => ?_
    refine hr ds s1 _ q1 r σ1 F H st1.st h3 _ fun s2 σ2 q2 st2 e2 l2 => ?_
    refine k s2 σ2 q2 (st1.trans st2) (fun j hj => ?_) (l2.trans l1)
    rw [e2 j fun z => hj (List.mem_append_right _ z), e1 j fun z => hj (List.mem_append_left _ z)]
def agTup (g : AGs) : AG := fun d s P => match d with
  | .tup ds => g ds s P
  | _ => False
theorem simg_tup {gs : TGs} {ags : AGs} {M : List Nat} {n : Nat} (h : SimGs K gs ags M) (hn : ∀ ds s P, ags ds s P → ds.length = n) : SimG K (gTup K n gs) (agTup ags) M := fun d s P q v σ F H ok dv Q k => by
  cases d <;> first | exact q.elim | skip
  rename_i ds
  obtain ⟨a, xs, rfl, h2, h3⟩ := dv
  exact ⟨a, xs, rfl, Same.sqt ok.le h2, by rw [h3.length]; exact hn ds s P q, h ds s P q xs σ F H ok h3 Q k⟩
/-- x op= e, ints -/
def aAug (i : Nat) (f : Int → Int → Int) (a : AE) : AS := fun A s => match s[i]? with
  | some (.pu (.int x)) => a s fun r s1 => match r.d with
    | .int y => A.nx (s1.set i (.pu (.int (f x y))))
    | _ => False
  | _ => False
theorem sims_aug {i : Nat} {f : Int → Int → Int} (h : Sim K te a) : SimS K (tAug i te (ipI f)) (aAug i f a) := fun A s q σ F H ok E kn kr kb kc => by
  unfold aAug at q
  cases e : s[i]? with
  | none =>
    rw [e] at q
    exact q.elim
  | some l =>
    rw [e] at q
    obtain ⟨o, h1, h2⟩ := ok.get e
    cases l with
    | no => exact q.elim
    | ow _ _ => exact q.elim
    | pu d =>
      cases d <;> first | exact q.elim | skip
      rename_i x
      obtain ⟨v, rfl, h3⟩ := h2
      cases (show v = _ from h3)
      refine ⟨.int x, h1, ?_⟩
      refine h.d q ok fun r s1 w F1 H1 q1 st1 d1 => ?_
      cases e2 : r.d <;> simp only [e2] at q1
      rename_i y
      rw [e2] at d1
      exact ⟨x, y, rfl, d1, kn _ _ F1 H1 q1 (st1.put (r := .pu (.int (f x y))) (.pu rfl))⟩
/-! ### lists that a def owns -/
/-- x.append(e) -/
def aApp (i : Nat) (a : AE) : AS := fun A s => match s[i]? with
  | some (.ow _ _) => a s fun r s1 => match s1[i]? with
    | some (.ow p xs) => xs.length < 100000 ∧ A.nx (s1.set i (.ow p (xs ++ [r.d])))
    | _ => False
  | _ => False
/-- the list of a slot is changed -/
theorem Step.chg {s1 : Ss} {F1 H1 : Hp} {i : Nat} {p : Addr} {xs ys : List D} {vs : List V} (st : Step K s F H s1 F1 H1 σ) (e : s1[i]? = some (.ow p xs)) (d : DqA K F1 ys vs) : Step K s F H (s1.set i (.ow p ys)) F1 (upd H1 p (.lst vs)) σ := by
  have hp := (st.st.own ⟨i, xs, e⟩).1
  obtain ⟨us, hu⟩ := (st.st.own ⟨i, xs, e⟩).2
  obtain ⟨o, h1, h2⟩ := st.st.get e
  obtain ⟨rfl, _⟩ := h2
  refine ⟨⟨fun b o q => ?_, by rw [List.length_set, st.st.len], fun j l o q1 q2 => ?_, fun j k q zs ws q1 q2 => ?_⟩, st.f, fun b o q hn => ?_, fun b q => ?_, st.n, fun q h => ?_⟩
  · rw [upd_ne (ne_of_none q hp)]
    exact st.st.le b o q
  · rw [List.getElem?_set] at q1
    by_cases e2 : i = j
    · subst e2
      rw [if_pos rfl] at q1
      split at q1
      · cases q1
        rw [h1] at q2
        cases q2
        exact ⟨rfl, hp, vs, upd_same, d⟩
      · cases q1
    · rw [if_neg e2] at q1
      refine (st.st.ok j l o q1 q2).mono (Same.refl _) fun q zs e3 ws z1 z2 => ⟨z1, ?_⟩
      have hq : q ≠ p := fun z => by
        subst z
        rw [e3] at q1
        exact e2 (st.st.un i j q xs zs e q1)
      rw [upd_ne hq]
      exact z2
  · have back : ∀ (m : Nat) (zs : List D), (s1.set i (.ow p ys))[m]? = some (Sl.ow q zs) → ∃ ws, s1[m]? = some (Sl.ow q ws) := fun m zs h => by
      rw [List.getElem?_set] at h
      by_cases e2 : i = m
      · subst e2
        rw [if_pos rfl] at h
        split at h
        · cases h
          exact ⟨xs, e⟩
        · cases h
      · rw [if_neg e2] at h
        exact ⟨zs, h⟩
    obtain ⟨w1, g1⟩ := back j zs q1
    obtain ⟨w2, g2⟩ := back k ws q2
    exact st.st.un j k q w1 w2 g1 g2
  · have h3 := st.k b o q hn
    by_cases hb : b = p
    · subst hb
      rcases st.o b ⟨i, xs, e⟩ with z | z
      · exact absurd z hn
      · rw [q] at z
        cases z
    · rw [upd_ne hb]
      exact h3
  · by_cases hb : b = p
    · subst hb
      rw [upd_same] at q
      cases q
    · rw [upd_ne hb] at q
      exact st.t b q
  · rcases own_set h with z | ⟨zs, z⟩
    · exact st.o q z
    · cases z
      exact st.o _ ⟨i, xs, e⟩
theorem tyV_list {p : Addr} {xs : List V} (h : H p = some (.lst xs)) : tyV K "list" (.ref p) H := .inl ⟨rfl, _, SqL.of h⟩
theorem sims_app {i : Nat} (h : Sim K te a) : SimS K (tDrop (tBM K "list" rAppend (tVar i) (tCons te tNil))) (aApp i a) := fun A s q σ F H ok E kn kr kb kc => by
  unfold aApp at q
  cases e : s[i]? with
  | none =>
    rw [e] at q
    exact q.elim
  | some l =>
    rw [e] at q
    cases l with
    | no => exact q.elim
    | pu d => exact q.elim
    | ow p0 xs0 =>
      obtain ⟨o, h1, h2⟩ := ok.get e
      obtain ⟨rfl, g1, vs0, g2, g3⟩ := h2
      refine ⟨.ref p0, h1, tyV_list g2, ?_⟩
      refine h.d q ok fun r s1 v F1 H1 q1 st1 d1 => ?_
      cases e2 : s1[i]? with
      | none =>
        rw [e2] at q1
        exact q1.elim
      | some l =>
        rw [e2] at q1
        cases l with
        | no => exact q1.elim
        | pu d => exact q1.elim
        | ow p xs =>
          obtain ⟨q1, q2⟩ := q1
          obtain ⟨o, z1, z2⟩ := st1.st.get e2
          obtain ⟨z3, y1, vs, y2, y3⟩ := z2
          rw [h1] at z1
          cases z1
          cases z3
          refine ⟨_, vs, v, rfl, rfl, y2, by rw [y3.length]; exact sz_lt q1, ?_⟩
          exact kn _ σ F1 _ q2 (st1.chg e2 (y3.append ⟨v, [], rfl, d1, rfl⟩))
/-- x[k] = e -/
def aPut (i : Nat) (a b : AE) : AS := fun A s => a s fun r s1 => match s1[i]? with
  | some (.ow _ _) => b s1 fun rk s2 => match rk.d, s2[i]? with
    | .int k, some (.ow p xs) => match ixN xs.length k with
      | some j => A.nx (s2.set i (.ow p (xs.set j r.d)))
      | none => False
    | _, _ => False
  | _ => False
theorem sims_put {i : Nat} (ha : Sim K ta aa) (hb : Sim K tb ab) : SimS K (tAsg ta (gSub (tVar i) tb rSetL)) (aPut i aa ab) := fun A s q σ F H ok E kn kr kb kc => by
  refine ha.d q ok fun r s1 v F1 H1 q1 st1 d1 => ?_
  cases e : s1[i]? with
  | none =>
    rw [e] at q1
    exact q1.elim
  | some l =>
    rw [e] at q1
    cases l with
    | no => exact q1.elim
    | pu d => exact q1.elim
    | ow p0 xs0 =>
      obtain ⟨o, h1, h2⟩ := st1.st.get e
      obtain ⟨rfl, g1, vs0, g2, g3⟩ := h2
      refine ⟨.ref p0, h1, ?_⟩
      refine hb.d q1 st1.st fun rk s2 w F2 H2 q2 st2 d2 => ?_
      cases e3 : rk.d <;> simp only [e3] at q2
      rename_i k
      cases e2 : s2[i]? with
      | none =>
        simp only [e2] at q2
      | some l =>
        simp only [e2] at q2
        cases l with
        | no => exact q2.elim
        | pu d => exact q2.elim
        | ow p xs =>
          simp only at q2
          cases e4 : ixN xs.length k with
          | none =>
            simp only [e4] at q2
          | some j =>
            simp only [e4] at q2
            rw [e3] at d2
            obtain ⟨o, z1, z2⟩ := st2.st.get e2
            obtain ⟨z3, y1, vs, y2, y3⟩ := z2
            rw [h1] at z1
            cases z1
            cases z3
            refine ⟨_, vs, k, j, rfl, d2, y2, by rw [y3.length]; exact e4, ?_⟩
            exact kn _ σ F2 _ q2 ((st1.trans st2).chg e2 (y3.set (Dq.mono st2.f _ _ d1)))
/-- x[k], len(x) of a list that a slot owns -/
def aIxO (i : Nat) (b : AE) : AE := fun s P => match s[i]? with
  | some (.ow _ _) => b s fun rk s1 => match rk.d, s1[i]? with
    | .int k, some (.ow _ xs) => match atI xs k with
      | some d => P (.pu d) s1
      | none => False
    | _, _ => False
  | _ => False
theorem sim_ixO {i : Nat} (hb : Sim K tb ab) : Sim K (tOp (fun x y H Q => rIxL K x y H Q ∨ rIxT K x y H Q ∨ rIxS x y H Q) (tVar i) tb) (aIxO i ab) := fun s P q σ F H ok Q k => by
  unfold aIxO at q
  cases e : s[i]? with
  | none =>
    rw [e] at q
    exact q.elim
  | some l =>
    rw [e] at q
    cases l with
    | no => exact q.elim
    | pu d => exact q.elim
    | ow p0 xs0 =>
      obtain ⟨o, h1, h2⟩ := ok.get e
      obtain ⟨rfl, g1, vs0, g2, g3⟩ := h2
      refine ⟨.ref p0, h1, ?_⟩
      refine hb.d q ok fun rk s2 w F2 H2 q2 st2 d2 => ?_
      cases e3 : rk.d <;> simp only [e3] at q2
      rename_i j
      cases e2 : s2[i]? with
      | none =>
        simp only [e2] at q2
      | some l =>
        simp only [e2] at q2
        cases l with
        | no => exact q2.elim
        | pu d => exact q2.elim
        | ow p xs =>
          simp only at q2
          cases e4 : atI xs j with
          | none =>
            simp only [e4] at q2
          | some d =>
            simp only [e4] at q2
            rw [e3] at d2
            obtain ⟨o, z1, z2⟩ := st2.st.get e2
            obtain ⟨z3, y1, vs, y2, y3⟩ := z2
            rw [h1] at z1
            cases z1
            cases z3
            obtain ⟨x, x1, x2⟩ := atI_ok y3 e4
            exact .inl ⟨_, vs, j, x, rfl, d2, SqL.of y2, x1, k _ s2 x F2 H2 q2 st2 (.pu x2)⟩
/-- a reading of a slot's list that leaves it as it is: r takes it as a value and hands back what holds no object -/
def aBor (r : ARC) (i : Nat) : AE := fun s P => match s[i]? with
  | some (.ow _ xs) => r [.lst xs] fun rs => ∃ d, rs = .pu d ∧ (flatD d = true) ∧ P (.pu d) s
  | _ => False
theorem flat_any {F F' : Hp} {d : D} {v : V} (h : flatD d = true) (q : Dq K F d v) : Dq K F' d v := by
  cases d <;> first | (cases h; done) | exact q
/-! ### while -/
def aWhile (c : AT) (b : AS) : AS := fun A s => ∃ W : Nat → Ss → Prop, (∃ m, W m s) ∧ ∀ m s, W m s → c s fun k s1 =>
  if k = true then b { nx := fun s' => ∃ m', m' < m ∧ W m' s', rt := A.rt, bk := A.nx, ct := fun s' => ∃ m', m' < m ∧ W m' s' } s1 else A.nx s1
theorem sims_while (h : SimT K c ac1) (hb : SimS K ts as) : SimS K (tWhile c ts) (aWhile ac1 as) := fun A s q σ F H ok E kn kr kb kc => by
  obtain ⟨W, ⟨m0, w0⟩, turn⟩ := q
  refine ⟨fun m σ' H' => ∃ s' F', W m s' ∧ Step K s F H s' F' H' σ', ⟨m0, s, F, w0, .refl ok⟩, fun m σ1 H1 ⟨s1, F1, w1, st1⟩ => ?_⟩
  refine h s1 _ (turn m s1 w1) σ1 F1 H1 st1.st _ fun b s2 F2 H2 q2 st2 => ?_
  cases b with
  | false => exact kn s2 σ1 F2 H2 q2 (st1.trans st2)
  | true =>
    refine ⟨fun σ' H' => ∃ m', m' < m ∧ ∃ s' F', W m' s' ∧ Step K s F H s' F' H' σ', fun _ _ z => z, ?_⟩
    have st12 := st1.trans st2
    refine hb _ s2 q2 σ1 F2 H2 st2.st _ (fun s3 σ3 F3 H3 ⟨m', l, w3⟩ st3 => ⟨m', l, s3, F3, w3, st12.trans st3⟩) (fun r s3 σ3 v F3 H3 q3 st3 rs => kr r s3 σ3 v F3 H3 q3 (st12.trans st3) (rs.more st12))
      (fun s3 σ3 F3 H3 q3 st3 => kn s3 σ3 F3 H3 q3 (st12.trans st3)) (fun s3 σ3 F3 H3 ⟨m', l, w3⟩ st3 => ⟨m', l, s3, F3, w3, st12.trans st3⟩)
/-! ### what is walked -/
def aItL (a : AE) : AI := fun s P => a s fun r s1 => match r.d with
  | .lst ds => P ds s1
  | .scr ds => P ds s1
  | _ => False
def aItT (a : AE) : AI := fun s P => a s fun r s1 => match r.d with
  | .tup ds => P ds s1
  | _ => False
theorem simi_list (h : Sim K te a) : SimI K (iList K te) (aItL a) := fun s P q σ F H ok R k => by
  refine h.d q ok fun r s1 v F1 H1 q1 st1 d1 => ?_
  have go : ∀ a xs ds, SqL K F1 a xs → DqA K F1 ds xs → v = .ref a → P ds s1 → ∃ a, v = .ref a ∧ (∃ xs, SqL K H1 a xs) ∧ R (Itl K a) H1 := fun a xs ds h1 h2 ev q2 => by
    refine ⟨a, ev, ⟨xs, Same.seq st1.st.le h1⟩, k ds s1 _ F1 H1 q2 st1 ⟨fun H => SqL K H a xs, YAt xs, ?_, fun H2 e => Same.seq e h1, fun i H2 x H3 e y d hd F2 e1 e2 => ?_⟩⟩
    · rw [← h2.length]
      exact walk_list
    · obtain ⟨rfl, hx⟩ := y
      obtain ⟨x2, g1, g2⟩ := h2.get hd
      rw [hx] at g1
      cases g1
      exact ⟨F2, Lf.same e2 _ _ (Dq.mono e1 _ _ g2)⟩
  cases e : r.d <;> simp only [e] at q1
  · rw [e] at d1
    obtain ⟨a, xs, ev, h1, h2⟩ := d1
    exact go a xs _ (SqL.of h1) h2 ev q1
  · rw [e] at d1
    obtain ⟨a, xs, ev, h1, h2⟩ := d1
    exact go a xs _ h1 h2 ev q1
theorem simi_tup (h : Sim K te a) : SimI K (iTup K te) (aItT a) := fun s P q σ F H ok R k => by
  refine h.d q ok fun r s1 v F1 H1 q1 st1 d1 => ?_
  cases e : r.d <;> simp only [e] at q1
  rw [e] at d1
  obtain ⟨a, xs, ev, h1, h2⟩ := d1
  refine ⟨a, ev, ⟨xs, Same.sqt st1.st.le h1⟩, k _ s1 _ F1 H1 q1 st1 ⟨fun H => SqT K H a xs, YAt xs, ?_, fun H2 e => Same.sqt e h1, fun i H2 x H3 e y d hd F2 e1 e2 => ?_⟩⟩
  · rw [← h2.length]
    exact walk_tup
  · obtain ⟨rfl, hx⟩ := y
    obtain ⟨x2, g1, g2⟩ := h2.get hd
    rw [hx] at g1
    cases g1
    exact ⟨F2, Lf.same e2 _ _ (Dq.mono e1 _ _ g2)⟩
def rngD (lo : Int) (n : Nat) : List D := (List.range n).map fun (i : Nat) => D.int (lo + (i : Int))
def aRng1 (a : AA) : AI := fun s P => a s fun ds s1 => match ds with
  | [.int j] => -(2 ^ 62) ≤ j ∧ j < 2 ^ 62 ∧ P (rngD 0 j.toNat) s1
  | _ => False
def aRng2 (a : AA) : AI := fun s P => a s fun ds s1 => match ds with
  | [.int i, .int j] => (-(2 ^ 62) ≤ i ∧ i < 2 ^ 62 ∧ -(2 ^ 62) ≤ j ∧ j < 2 ^ 62) ∧ P (rngD i (j - i).toNat) s1
  | _ => False
theorem rng_yields {lo : Int} {n : Nat} {F1 : Hp} : Yields K (Itr lo n) F1 (rngD lo n) := by
  refine ⟨fun _ => True, YFn fun i => .int (lo + i), ?_, fun _ _ => trivial, fun i H2 x H3 e y d hd F2 e1 e2 => ?_⟩
  · have e : (rngD lo n).length = n := by
      unfold rngD
      rw [List.length_map, List.length_range]
    rw [e]
    exact walk_range
  · obtain ⟨rfl, rfl⟩ := y
    unfold rngD at hd
    rw [List.getElem?_map] at hd
    cases e3 : (List.range n)[i]? with
    | none =>
      rw [e3] at hd
      cases hd
    | some j =>
      rw [e3] at hd
      obtain ⟨hi, hj⟩ := List.getElem?_eq_some_iff.mp e3
      rw [List.getElem_range] at hj
      cases hd
      subst hj
      exact ⟨F2, Lf.same e2 _ _ rfl⟩
theorem dqa1 {F : Hp} {d : D} {vs : List V} (h : DqA K F [d] vs) : ∃ v, vs = [v] ∧ Dq K F d v := by
  obtain ⟨x, r, rfl, h2, h3⟩ := h
  exact ⟨x, by rw [show r = [] from h3], h2⟩
theorem dqa2 {F : Hp} {d e : D} {vs : List V} (h : DqA K F [d, e] vs) : ∃ v w, vs = [v, w] ∧ Dq K F d v ∧ Dq K F e w := by
  obtain ⟨x, r, rfl, h2, h3⟩ := h
  obtain ⟨y, rfl, h4⟩ := dqa1 h3
  exact ⟨x, y, rfl, h2, h4⟩
theorem simi_rng1 {t : TA} {a : AA} (h : SimA K t a) : SimI K (iRng1 t) (aRng1 a) := fun s P q σ F H ok R k => by
  refine h s _ q σ F H ok _ fun ds s1 vs F1 H1 q1 st1 d1 => ?_
  match ds, q1, d1 with
  | [.int j], q1, d1 =>
    obtain ⟨v, rfl, h2⟩ := dqa1 d1
    cases (show v = _ from h2)
    exact ⟨j, rfl, q1.1, q1.2.1, k _ s1 _ F1 H1 q1.2.2 st1 rng_yields⟩
theorem simi_rng2 {t : TA} {a : AA} (h : SimA K t a) : SimI K (iRng2 t) (aRng2 a) := fun s P q σ F H ok R k => by
  refine h s _ q σ F H ok _ fun ds s1 vs F1 H1 q1 st1 d1 => ?_
  match ds, q1, d1 with
  | [.int i, .int j], q1, d1 =>
    obtain ⟨v, w, rfl, h2, h3⟩ := dqa2 d1
    cases (show v = _ from h2)
    cases (show w = _ from h3)
    exact ⟨i, j, rfl, q1.1, k _ s1 _ F1 H1 q1.2 st1 rng_yields⟩
/-! ### for -/
def aForD (g : AG) (b : AS) (A : AEnds) : List D → Ss → Prop
  | [], s => A.nx s
  | d :: ds, s => g d s fun s1 => b { nx := aForD g b A ds, rt := A.rt, bk := A.nx, ct := aForD g b A ds } s1
def aFor (i : AI) (g : AG) (b : AS) : AS := fun A s => i s fun ds s1 => aForD g b A ds s1
theorem sims_for {wi : TI} {ai : AI} {g : TG} {ag : AG} {L : List Nat} (hi : SimI K wi ai) (hg : SimG K g ag L) (hb : SimS K ts as) : SimS K (tFor wi g ts) (aFor ai ag as) := fun A s q σ F H ok E kn kr kb kc => by
  refine hi s _ q σ F H ok _ fun ds s1 J F1 H1 q1 st1 hy => ?_
  obtain ⟨G, Y, w, hG, hY⟩ := hy
  refine for_it w (fun i σ' H' => ∃ s' F', aForD ag as A (ds.drop i) s' ∧ Step K s F H s' F' H' σ' ∧ Same F1 F') ⟨s1, F1, by rw [List.drop_zero]; exact q1, st1, Same.refl _⟩ (fun i σ' H' hi ⟨s', F', _, st, sm⟩ => hG H' (sm.trans st.st.le)) ?_ ?_
  · rintro i x σ' H' H2 hi ⟨s', F', qq, st, sm⟩ y
    have ed : ds.drop i = ds[i] :: ds.drop (i + 1) := List.drop_eq_getElem_cons hi
    rw [ed] at qq
    obtain ⟨F2, l⟩ := hY i H' x H2 (sm.trans st.st.le) y ds[i] (List.getElem?_eq_getElem hi) F' sm st.st.le
    obtain ⟨st2, rs2⟩ := st.leaf l
    obtain ⟨w2, e1, e2⟩ := rs2.ok
    cases e1
    refine hg _ s' _ qq x σ' F2 H2 st2.st e2 _ fun s3 σ3 q3 st3 _ _ => ?_
    have st23 := st2.trans st3
    refine hb _ s3 q3 σ3 F2 H2 st3.st _ (fun s4 σ4 F4 H4 q4 st4 => ⟨s4, F4, q4, st23.trans st4, (sm.trans l.f).trans st4.f⟩) (fun r s4 σ4 v F4 H4 q4 st4 rs => kr r s4 σ4 v F4 H4 q4 (st23.trans st4) (rs.more st23))
      (fun s4 σ4 F4 H4 q4 st4 => kn s4 σ4 F4 H4 q4 (st23.trans st4)) (fun s4 σ4 F4 H4 q4 st4 => ⟨s4, F4, q4, st23.trans st4, (sm.trans l.f).trans st4.f⟩)
  · rintro σ' H' ⟨s', F', qq, st, _⟩
    rw [List.drop_length] at qq
    exact kn s' σ' F' H' qq st
end
end DL

/-! A def's promise where no repr is under way (the guards of the stack are known: none). -/
namespace DL
open PySem L2

structure GnOk (P : Program) (w : World) (K : PySem.W.Frag) (mg : Str → Option Value) (base : Heap) (CX : CXT) (k : Nat) (f : Addr) (fd : FuncData) (ps : List Str) (sp : Sp) : Prop where
  many : ∀ xs H Q E, sp xs H Q E → xs.length = ps.length
  go : ∀ (A : Around) (fr : List Env) (s : Shared) (H : Hp) (given : Args) (ws : List Value) (xs : List V) (Q : VK) (E : XK), A.guards = some [] → Room k A → Env0 P w K mg base A fr s H → BindsTo s fd given (ps.zip ws) → Vals xs ws → sp xs H Q E →
    codeAny (model P w) A (.call (.ref f) given) (CR CX fr P w H s Q E) s
section
variable {P : Program} {w : World} {K : PySem.W.Frag} {mg : Str → Option Value} {base : Heap} {CX : CXT} {k : Nat}
theorem GnOk.imp {f : Addr} {fd : FuncData} {ps : List Str} {sp sp' : Sp} (G : GnOk P w K mg base CX k f fd ps sp) (h : ∀ xs H Q E, sp' xs H Q E → sp xs H Q E) : GnOk P w K mg base CX k f fd ps sp' :=
  ⟨fun xs H Q E q => G.many xs H Q E (h _ _ _ _ q), fun A fr s H given ws xs Q E hg hr e b r q => G.go A fr s H given ws xs Q E hg hr e b r (h _ _ _ _ q)⟩
theorem gn_body {x qual : Str} {st : Stmt} {f : Addr} {fd : FuncData} {N ps : List Str} {sp : Sp} (Fn : Fun K x qual st f fd) (S : FnScope N ps (defScope st)) (many : ∀ xs H Q E, sp xs H Q E → xs.length = ps.length)
    (body : ∀ (cdv : Value) (A : Around) (fr : List Env) (s : Shared) (H : Hp) (xs : List V) (Q : VK) (E : XK), (A.deeper (PyProof.Rows.envOfC qual (defScope st) s.heap.objs.size f cdv)).guards = some [] → Room k (A.deeper (PyProof.Rows.envOfC qual (defScope st) s.heap.objs.size f cdv)) → sp xs H Q E →
      ∃ t, PSs (cxOf CX P w K mg base N qual (defScope st) f cdv A fr s H E) (defBody st) t ∧ t { nx := fun _ H' => Q .non H', rt := Q } (L2.start N xs) H) :
    GnOk P w K mg base CX (k + 1) f fd ps sp := by
  obtain ⟨oc, od, kV, doc, pm, an, cdv, ct, osl, rfl, here, hcode⟩ := Fn.ex
  refine ⟨many, fun A fr s H given ws xs Q E hg hr e0 hb rel hsp => ?_⟩
  have inK : K.In s.heap := e0.mod.kin.keeps fun b o e => (e0.bs b o e).1
  have bnd : ∀ y ∈ ps.zip ws, (defScope st).names.lookup y.1 = some .local ∨ ((defScope st).names.lookup y.1 = some .cell ∧ ((cellsFrom (s.heap.objs.size + 1) (defScope st).names []).lookup y.1).isSome = true) := by
    rintro ⟨n, v⟩ hy
    cases S.par n (List.of_mem_zip hy).1 with
    | inl q => exact .inl q
    | inr q => exact .inr ⟨q, PySem.W.cellsFrom_some _ _ _ (.inl q)⟩
  refine codeAny_call_function hr.depth (inK _ _ here) rfl S.co S.gen rfl (PySem.W.codeRec_of inK hcode) (hb _ _ _ _ ?_)
  refine wpAny_newFunctionEnv_cells S.kind bnd fun env he s1 new => ?_
  cases he
  refine ⟨(e0.mod.nolimit.keeps fun b o e => (e0.bs b o e).1).keeps new.toInCall.keep, codeAny_func ?_⟩
  obtain ⟨t, ht, hq⟩ := body cdv A fr s H xs Q E hg (hr.deeper _) hsp
  have I0 := inv_start (CX := CX) (P := P) (E := E) S hr.hd e0 (many _ _ _ _ hsp) rel new
  refine wpAny_mono (ht.run [] s1 (L2.start N xs) H _ I0 hq) (fun fl s' hs => ?_) fun e s' hs => hs
  cases fl with
  | brk =>
    obtain ⟨_, _, _, q⟩ := hs
    exact q.elim
  | cont =>
    obtain ⟨_, _, _, q⟩ := hs
    exact q.elim
  | next =>
    obtain ⟨σ', H', J, q⟩ := hs
    exact ⟨.non, H', J.os, J.bare, J.base, J.hok, rfl, q⟩
  | ret u =>
    obtain ⟨v, σ', H', J, rv, q⟩ := hs
    exact ⟨v, H', J.os, J.bare, J.base, J.hok, rv, q⟩
end
section
variable {X : Cx} {CX : CXT} {k : Nat} {f : Addr} {fd : FuncData} {ps ks : List Str} {sp : Sp} {E : XK} {x : Str} {p pos : Pos} {e : Expr} {es : List Expr} {t tk : TA} {kws : List Keyword}
theorem gn_end {pins : List (Addr × Obj)} {σ : L2.St} {H : Hp} {s : Shared} {Q : VK} {given : Args} {ws : List Value} {xs : List V} (G : GnOk X.prog X.w X.K X.mg X.base CX k f fd ps sp) (hg : X.A.guards = some []) (hr : Room k X.A) (hx : Passes CX X E) (I : L2.Inv X pins σ H s)
    (hb : BindsTo s fd given (ps.zip ws)) (r : Vals xs ws) (h : sp xs H Q E) : wpAny (model X.prog X.w) X.A (call (.ref f) given.pos given.kw) (EP X pins σ Q) X.xe s := by
  refine wpAny_call (codeAny_mono (G.go X.A X.stack s H given ws xs Q E hg hr I.env0 hb r h) ?_)
  intro res s' hq
  match res, hq with
  | .error e, hq => exact hx pins σ H s e s' I hq
  | .ok (.ret u), hq => exact I.after hq
/-- f(e, ..) -/
theorem pe_g (G : GnOk X.prog X.w X.K X.mg X.base CX k f fd ps sp) (hgd : X.A.guards = some []) (hr : Room k X.A) (hg : Gl X x) (hm : X.mg x = some (.ref f)) (hk : PySem.W.keepIn X.K (.ref f) = true) (hb : Binds X.K fd ps []) (hx : Passes CX X E)
    (ha : PA X (e :: es) t) (hdb : (x == ("__debug__" : Str)) = false := by decide) (he : starEach (e :: es) X.env = (false, eval e X.env) :: starEach es X.env := by rfl) (hpl : (backTo pos (starEach es X.env)).any (·.1) = false := by rfl) :
    PE X (.Call (.Name x p) (e :: es) [] pos) (tCall sp [] E t) := ⟨fun pins s σ H Q I h => by
  refine wpAny_Call_Name_kw (ld_glob I hg hm ?_ hdb)
  refine PySem.W.callWith_K (h₀ := X.base) I.ok.mod.kin hk (thn (ha.run pos pins s σ H _ I h) ?_) he hpl
  rintro us s1 ⟨xs, H1, I1, r, q⟩
  have q' : sp (xs ++ []) H1 Q E := q
  rw [List.append_nil] at q'
  have hl : (us ++ []).length = ps.length := by rw [List.append_nil, ← r.length]; exact G.many _ _ _ _ q'
  have bb := hb s1 us I1.kIn hl
  rw [List.append_nil] at bb
  exact ⟨I1.kIn, gn_end (given := ⟨us, []⟩) G hgd hr hx I1 bb r q'⟩⟩
/-- f() -/
theorem pe_g0 (G : GnOk X.prog X.w X.K X.mg X.base CX k f fd ps sp) (hgd : X.A.guards = some []) (hr : Room k X.A) (hg : Gl X x) (hm : X.mg x = some (.ref f)) (hk : PySem.W.keepIn X.K (.ref f) = true) (hb : Binds X.K fd ps []) (hx : Passes CX X E) (hdb : (x == ("__debug__" : Str)) = false := by decide) :
    PE X (.Call (.Name x p) [] [] pos) (tCall sp [] E tNil) := ⟨fun pins s σ H Q I h => by
  have q' : sp ([] ++ []) H Q E := h
  rw [List.append_nil] at q'
  have bb := hb s [] I.kIn (by rw [← G.many _ _ _ _ q']; rfl)
  rw [List.append_nil] at bb
  exact wpAny_Call_Name_kw (ld_glob I hg hm (PySem.W.callWith_K0 I.kIn hk (gn_end (given := ⟨[], []⟩) G hgd hr hx I bb .nil q')) hdb)⟩
/-- f(k = v, ..): by keywords alone -/
theorem pe_gK {g : List Value → List Value → List Value} {gV : List V → List V → List V} (G : GnOk X.prog X.w X.K X.mg X.base CX k f fd ps sp) (hgd : X.A.guards = some []) (hr : Room k X.A) (hg : Gl X x) (hm : X.mg x = some (.ref f)) (hk : PySem.W.keepIn X.K (.ref f) = true) (hb : KBinds X.K fd ps ks g gV) (hx : Passes CX X E)
    (hkw : PK X kws tk) (hall : (backToKw pos (keywordEach kws X.env)).all (·.1.isSome) = true := by rfl) (hks : (backToKw pos (keywordEach kws X.env)).filterMap (·.1) = ks := by rfl)
    (hdb : (x == ("__debug__" : Str)) = false := by decide) (hpl : ((backTo pos (starEach [] X.env)).any (·.1) || (backToKw pos (keywordEach kws X.env)).any (·.1.isNone)) = false := by rfl) :
    PE X (.Call (.Name x p) [] kws pos) (tCallK sp gV E tNil tk) := ⟨fun pins s σ H Q I h => by
  refine wpAny_Call_Name_kw (ld_glob I hg hm ?_ hdb)
  refine PySem.W.callWith_KW0 (h₀ := X.base) I.ok.mod.kin hk hall (thn (hkw.run pos pins s σ H _ I h) ?_) hpl
  rintro us s1 ⟨zs, H1, I1, r, q⟩
  rw [hks]
  have rr := hb.rel (vs := []) (us := []) .nil r
  have hl : (g [] us).length = ps.length := by rw [← rr.length]; exact G.many _ _ _ _ q
  exact ⟨I1.kIn, gn_end (given := ⟨[], ks.zip us⟩) G hgd hr hx I1 (hb.to s1 [] us I1.kIn hl) rr q⟩⟩
end
/-! ### the law's call -/
section
variable {P : Program} {w : World} {K : PySem.W.Frag} {mg mb : Str → Option Value} {CX : CXT} {k : Nat} {fa a : Addr} {fd : FuncData} {x : Str} {sp : Sp} {s : Shared} {vs : List Value} {ns : List Int}
/-- what is tracked at the entry: the script at most, known to its object -/
structure Entry (P : Program) (w : World) (K : PySem.W.Frag) (s : Shared) (a : Addr) (ob : Obj) (xs : List V) (H : Hp) : Prop where
  one : ∀ b u, H b = some u → b = a ∧ u = .frz ob (.lst xs) ∧ K.lookup a = none
  ok : HOk P w H s.heap
theorem entry_env {ob : Obj} {xs : List V} {H : Hp} (en : Entry P w K s a ob xs H) (ha : s.heap.get? a = some ob) (hd : ∀ es ep, ob.data ≠ .dict es ep) (KX : K.In s.heap) (hns : s.heap.Ns mainGlobals mg) (hb : s.heap.Ns builtinsNs mb)
    (hbb : ∀ x : Str, x ≠ "__name__" → mb x = bootBuiltins x) (hlim : s.heap.NoLimit) (hg : s.gens = #[]) : K.In (hidT s.heap H) ∧ (hidT s.heap H).Ns mainGlobals mg ∧ Env0 P w K mg (hidT s.heap H) callerA [] s H := by
  have out : ∀ b o, s.heap.get? b = some o → (b = a → False) → (hidT s.heap H).get? b = some o := fun b o e n => by
    refine hidT_get e ?_
    cases q : H b with
    | none => rfl
    | some u => exact (n (en.one b u q).1).elim
  have names : ∀ {b : Addr} {m : Str → Option Value}, s.heap.Ns b m → (hidT s.heap H).Ns b m := by
    rintro b m ⟨o, es, ep, e, d, r⟩
    refine ⟨o, es, ep, out b o e fun z => ?_, d, r⟩
    subst z
    rw [ha] at e
    cases e
    exact hd es ep d
  have inK : K.In (hidT s.heap H) := fun b o e => by
    refine hidT_get (KX b o e) ?_
    cases q : H b with
    | none => rfl
    | some u =>
      obtain ⟨z, _, n⟩ := en.one b u q
      rw [z, n] at e
      cases e
  refine ⟨inK, names hns, rfl, ⟨inK, names hns, ⟨mb, names hb, hbb⟩, ?_⟩, fun b o e => of_hidT e, Nat.le_of_eq (hidT_size _ _), trivial, fun b hb => ?_, en.ok, .of_eq hg⟩
  · obtain ⟨mc, h1, h2⟩ := hlim
    exact ⟨mc, names h1, h2⟩
  · cases hb
theorem law_go {H : Hp} {xs : List V} {ob : Obj} (en : Entry P w K s a ob xs H) (ha : s.heap.get? a = some ob) (hd : ∀ es ep, ob.data ≠ .dict es ep) (KX : K.In s.heap) (hns : s.heap.Ns mainGlobals mg) (hb : s.heap.Ns builtinsNs mb)
    (hbb : ∀ x : Str, x ≠ "__name__" → mb x = bootBuiltins x) (hlim : s.heap.NoLimit) (hg : s.gens = #[]) (hr : Room k callerA) (G : ∀ base : Heap, K.In base → base.Ns mainGlobals mg → GnOk P w K mg base CX k fa fd [x] sp) (hbind : ∀ (s : Shared) (u : Value), BindsTo s fd ⟨[u], []⟩ [(x, u)])
    (hsp : sp [.ref a] H (fun v _ => v = .bl true) fun _ _ _ => False) (hCX : ∀ e s', CX [] H s (fun _ _ _ => False) e s' → False) :
    codeAny (model P w) callerA (.call (.ref fa) ⟨[.ref a], []⟩) (fun r s' => r = .ok (.ret (.bool true)) ∧ OldK s.heap s'.heap ∧ s'.os = s.os ∧ PyProof.Rows.AllBare s'.gens) s := by
  obtain ⟨inK, nm, e0⟩ := entry_env en ha hd KX hns hb hbb hlim hg
  refine codeAny_mono ((G _ inK nm).go callerA [] s H ⟨[.ref a], []⟩ [.ref a] [.ref a] _ _ rfl hr e0 (hbind s (.ref a)) (.cons rfl .nil) hsp) ?_
  intro r s' h
  match r, h with
  | .error e, h => exact (hCX e s' h).elim
  | .ok (.ret u), h =>
    obtain ⟨v, H', os, bare, un, hok', rel, q⟩ := h
    cases (show v = _ from q)
    cases (show u = _ from rel)
    refine ⟨rfl, OldK.of_keep fun b o e => ?_, os, bare⟩
    cases q : H b with
    | none => exact un.keep b o e q (fun z => by cases z) (fun z => by cases z)
    | some u =>
      obtain ⟨z, z1, _⟩ := en.one b u q
      rw [z1] at q
      have h1 := (en.ok b _ q).1
      have h2 := (hok' b _ (un.frzs b ob _ q)).1
      rw [e] at h1
      cases h1
      exact h2
theorem law_g (KX : K.In s.heap) (hns : s.heap.Ns mainGlobals mg) (hb : s.heap.Ns builtinsNs mb) (hbb : ∀ x : Str, x ≠ "__name__" → mb x = bootBuiltins x) (hlim : s.heap.NoLimit) (hg : s.gens = #[])
    (ha : s.heap.get? a = some { cls := .type "list", data := .seq vs.toArray }) (hi : PyProof.Rows.IntsAre vs ns) (hl : ns.length ≤ sizeLine) (hr : Room k callerA)
    (G : ∀ base : Heap, K.In base → base.Ns mainGlobals mg → GnOk P w K mg base CX k fa fd [x] sp) (hbind : ∀ (s : Shared) (u : Value), BindsTo s fd ⟨[u], []⟩ [(x, u)])
    (hsp : ∀ H : Hp, SqL K H a (ns.map V.int) → sp [.ref a] H (fun v _ => v = .bl true) fun _ _ _ => False) (hCX : ∀ H e s', CX [] H s (fun _ _ _ => False) e s' → False) :
    codeAny (model P w) callerA (.call (.ref fa) ⟨[.ref a], []⟩) (fun r s' => r = .ok (.ret (.bool true)) ∧ OldK s.heap s'.heap ∧ s'.os = s.os ∧ PyProof.Rows.AllBare s'.gens) s := by
  have rv := vals_ints hi
  have hd : ∀ es ep, (Obj.data { cls := .type "list", data := .seq vs.toArray }) ≠ .dict es ep := fun es ep z => by cases z
  cases hk : K.lookup a with
  | some o =>
    have e := KX a o hk
    rw [ha] at e
    cases e
    refine law_go (H := fun _ => none) (xs := ns.map V.int) ⟨(fun b u z => by cases z), (fun b u z => by cases z)⟩ ha hd KX hns hb hbb hlim hg hr G hbind (hsp _ (.inr ⟨_, vs.toArray, _, hk, rfl, rfl, rfl, ?_, by simpa using rv⟩)) (hCX _)
    rw [List.size_toArray, ← rv.length, List.length_map]
    exact hl
  | none =>
    have at_a : ∀ b u, (if b = a then some (HO.frz { cls := .type "list", data := .seq vs.toArray } (.lst (ns.map V.int))) else none) = some u → b = a ∧ u = HO.frz { cls := .type "list", data := .seq vs.toArray } (.lst (ns.map V.int)) := fun b u z => by
      by_cases hb : b = a
      · rw [if_pos hb] at z
        cases z
        exact ⟨hb, rfl⟩
      · rw [if_neg hb] at z
        cases z
    refine law_go (H := fun b => if b = a then some (HO.frz { cls := .type "list", data := .seq vs.toArray } (.lst (ns.map V.int))) else none) ⟨fun b u z => ⟨(at_a b u z).1, (at_a b u z).2, hk⟩, fun b u z => ?_⟩ ha hd KX hns hb hbb hlim hg hr G hbind (hsp _ (.inl (.inr ⟨_, if_pos rfl⟩))) (hCX _)
    obtain ⟨rfl, rfl⟩ := at_a b u z
    exact ⟨ha, by rw [List.length_map]; exact hl, vs, _, rv, ha⟩
end
/-- the goal that k_head leaves -/
theorem walk_g {l : PySem.W.OpenLaw} {n k : Nat} {q : Program} {loose : List Str} {XP : (Str → Option Value) → Heap → Prop} {YP : World → Heap → Prop} {d : DefRec} {K : Params → PySem.W.Frag} {CX : World → CXT} {sp : World → Sp} {x : Str} (hn : l.most = some n) (hn2 : n ≤ sizeLine) (hdf : d.params.defaults = []) (hr : Room k callerA)
    (hY : ∀ (w : World) (h : Heap), YP w h → (K w.params).In h)
    (F : ∀ (w : World) (mg : Str → Option Value) (fa : Addr) (h : Heap), (K w.params).In h → h.Ns mainGlobals mg → mg d.name = some (.ref fa) → ∃ fd : FuncData, (∀ (s : Shared) (u : Value), BindsTo s fd ⟨[u], []⟩ [(x, u)]) ∧
        ∀ base : Heap, (K w.params).In base → base.Ns mainGlobals mg → GnOk l.prog w (K w.params) mg base (CX w) k fa fd [x] (sp w))
    (hsp : ∀ (w : World) (H : Hp) (a : Addr) (ns : List Int), ns.length ≤ n → SqL (K w.params) H a (ns.map V.int) → sp w [.ref a] H (fun v _ => v = .bl true) fun _ _ _ => False)
    (hCX : ∀ (w : World) (H : Hp) (s : Shared) (e : Value) (s' : Shared), CX w [] H s (fun _ _ _ => False) e s' → False) : PySem.W.WalkO q loose XP YP l.row.toRowW d [] (fun f vs => PySem.call f vs) := by
  refine Att.attach_call hn hdf fun w s0 s1 mg mb fa o pm cd doc a vs ns G Y ho hd hcd hmg hobj hints hlen hg => ?_
  obtain ⟨fd, hb, hF⟩ := F w mg fa _ (hY w _ Y) G.T.g hmg
  exact law_g (hY w _ Y) G.T.g G.T.b G.T.builtins G.T.nolimit hg hobj hints (Nat.le_trans hlen hn2) hr hF hb (fun H hS => hsp w H a ns hlen hS) fun H e s' => hCX w H s1 e s'
end DL

namespace DL
open PySem L2

section
variable {K : PySem.W.Frag} {te ta tb tc : TE} {a aa ab ac : AE} {F H : Hp} {s : Ss} {σ : L2.St} {ts tu : TS} {as au : AS} {c : TT} {ac1 : AT}
/-! ### comprehensions -/
def wipeS (s : Ss) : List Nat → Ss
  | [] => s
  | v :: vs => (wipeS s vs).set v .no
theorem wipeS_len (s : Ss) : ∀ vs, (wipeS s vs).length = s.length
  | [] => rfl
  | v :: vs => by
    show ((wipeS s vs).set v .no).length = s.length
    rw [List.length_set, wipeS_len s vs]
theorem wipeS_in {s : Ss} {i : Nat} {l : Sl} : ∀ {vs : List Nat}, (wipeS s vs)[i]? = some l → (i ∈ vs → l = .no) ∧ (i ∉ vs → s[i]? = some l)
  | [], h => by
    refine ⟨fun z => ?_, fun _ => h⟩
    cases z
  | v :: vs, h => by
    have h2 : ((wipeS s vs).set v .no)[i]? = some l := h
    rw [List.getElem?_set] at h2
    by_cases e : v = i
    · subst e
      rw [if_pos rfl] at h2
      split at h2
      · cases h2
        exact ⟨fun _ => rfl, fun z => absurd (List.mem_cons_self) z⟩
      · cases h2
    · rw [if_neg e] at h2
      obtain ⟨g1, g2⟩ := wipeS_in h2
      refine ⟨fun z => ?_, fun z => g2 fun y => z (List.mem_cons_of_mem _ y)⟩
      rcases List.mem_cons.mp z with y | y
      · exact absurd y.symm e
      · exact g1 y
theorem wipe_in {σ : L2.St} {i : Nat} : ∀ {vs : List Nat}, i ∈ vs → i < σ.length → (wipe σ vs)[i]? = some none
  | [], h, _ => by cases h
  | v :: vs, h, hl => by
    show ((wipe σ vs).set v none)[i]? = some none
    rw [List.getElem?_set]
    by_cases e : v = i
    · rw [if_pos e, if_pos (by rw [wipe_length, e]; exact hl)]
    · rw [if_neg e]
      rcases List.mem_cons.mp h with y | y
      · exact absurd y.symm e
      · exact wipe_in y hl
theorem own_wipe {s : Ss} {vs : List Nat} {p : Addr} (h : Own (wipeS s vs) p) : Own s p := by
  obtain ⟨i, xs, e⟩ := h
  obtain ⟨g1, g2⟩ := wipeS_in e
  by_cases hi : i ∈ vs
  · cases g1 hi
  · exact ⟨i, xs, g2 hi⟩
/-- the slots vs are empty -/
def Wiped (s : Ss) (vs : List Nat) : Prop := ∀ i l, i ∈ vs → s[i]? = some l → l = .no
theorem wiped_wipe (s : Ss) (vs : List Nat) : Wiped (wipeS s vs) vs := fun i l hi e => (wipeS_in e).1 hi
theorem StOk.into {vs : List Nat} (ok : StOk K F H σ s) (w : Wiped s vs) : StOk K F H (wipe σ vs) s where
  le := ok.le
  len := by rw [wipe_length, ok.len]
  ok := fun i l o h1 h2 => by
    by_cases hi : i ∈ vs
    · rw [w i l hi h1]
      trivial
    · rw [wipe_out hi] at h2
      exact ok.ok i l o h1 h2
  un := ok.un
theorem StOk.outof {vs : List Nat} {σ2 : L2.St} (ok : StOk K F H σ2 s) (hl : σ2.length = σ.length) (e : ∀ j, j ∉ vs → σ2[j]? = σ[j]?) : StOk K F H σ (wipeS s vs) where
  le := ok.le
  len := by rw [wipeS_len, ← hl, ok.len]
  ok := fun i l o h1 h2 => by
    obtain ⟨g1, g2⟩ := wipeS_in h1
    by_cases hi : i ∈ vs
    · rw [g1 hi]
      trivial
    · exact ok.ok i l o (g2 hi) (by rw [e i hi]; exact h2)
  un := fun i j p xs ys h1 h2 => by
    obtain ⟨g1, g2⟩ := wipeS_in h1
    obtain ⟨k1, k2⟩ := wipeS_in h2
    by_cases hi : i ∈ vs
    · cases g1 hi
    · by_cases hj : j ∈ vs
      · cases k1 hj
      · exact ok.un i j p xs ys (g2 hi) (k2 hj)
theorem Step.outof {vs : List Nat} {σ2 : L2.St} {s2 : Ss} {F2 H2 : Hp} (st : Step K s F H s2 F2 H2 σ2) (hl : σ2.length = σ.length) (e : ∀ j, j ∉ vs → σ2[j]? = σ[j]?) : Step K s F H (wipeS s2 vs) F2 H2 σ :=
  ⟨st.st.outof hl e, st.f, st.k, st.t, st.n, fun p h => st.o p (own_wipe h)⟩
theorem wipe_eq {σ2 : L2.St} {vs : List Nat} (hl : σ2.length = (wipe σ vs).length) (e : ∀ j, j ∉ vs → σ2[j]? = (wipe σ vs)[j]?) : wipe σ2 vs = wipe σ vs := by
  rw [wipe_length] at hl
  refine List.ext_getElem? fun i => ?_
  by_cases hi : i ∈ vs
  · by_cases hk : i < σ.length
    · rw [wipe_in hi hk, wipe_in hi (by rw [hl]; exact hk)]
    · rw [List.getElem?_eq_none (by rw [wipe_length]; omega), List.getElem?_eq_none (by rw [wipe_length]; omega)]
  · rw [wipe_out hi, e i hi]
def aLcD (g : AG) (t : AT) (e : AE) (vs : List Nat) : List D → Ss → List D → (List D → Ss → Prop) → Prop
  | [], s, acc, P => P acc s
  | d :: ds, s, acc, P => g d s fun s1 => t s1 fun b s2 => if b = true then e s2 fun r s3 => acc.length < 100000 ∧ aLcD g t e vs ds (wipeS s3 vs) (acc ++ [r.d]) P else aLcD g t e vs ds (wipeS s2 vs) acc P
def aLc (i : AI) (g : AG) (t : AT) (e : AE) (vs : List Nat) : AE := fun s P => i s fun ds s1 => ∀ p, aLcD g t e vs ds (wipeS s1 vs) [] fun acc s2 => P (.ow p acc) s2
/-- what stands of a comprehension between two turns -/
structure LcAt (K : PySem.W.Frag) (s : Ss) (F H : Hp) (σ : L2.St) (p : Addr) (F1 : Hp) (vs : List Nat) (s' : Ss) (F' H' : Hp) (acc : List D) : Prop where
  st : Step K s F H s' F' H' σ
  f : Same F1 F'
  pf : F' p = none
  po : ¬ Own s' p
  pl : ∃ us, H' p = some (.lst us) ∧ DqA K F' acc us
  w : Wiped s' vs
theorem LcAt.next {p : Addr} {F1 : Hp} {vs : List Nat} {s' s2 : Ss} {F' H' F2 H2 : Hp} {acc : List D} {σ2 : L2.St} (hp : H p = none) (x : LcAt K s F H σ p F1 vs s' F' H' acc) (st : Step K s' F' H' s2 F2 H2 σ2) (hl : σ2.length = σ.length) (e : ∀ j, j ∉ vs → σ2[j]? = σ[j]?) :
    LcAt K s F H σ p F1 vs (wipeS s2 vs) F2 H2 acc ∧ ∀ acc' us, DqA K F2 acc' us → LcAt K s F H σ p F1 vs (wipeS s2 vs) F2 (upd H2 p (.lst us)) acc' := by
  obtain ⟨us, g1, g2⟩ := x.pl
  have q1 : H2 p = some (.lst us) := st.k p _ g1 x.po
  have q2 : F2 p = none := by
    cases z : F2 p with
    | none => rfl
    | some o =>
      rcases st.n p (by rw [z]; intro y; cases y) with y | y | y
      · exact absurd x.pf y
      · rw [g1] at y
        cases y
      · exact absurd y x.po
  have q3 : ¬ Own (wipeS s2 vs) p := fun z => by
    rcases st.o p (own_wipe z) with y | y
    · exact x.po y
    · rw [g1] at y
      cases y
  have st2 : Step K s F H (wipeS s2 vs) F2 H2 σ := x.st.trans (st.outof hl e)
  refine ⟨⟨st2, x.f.trans st.f, q2, q3, ⟨us, q1, DqA.mono st.f _ _ g2⟩, wiped_wipe _ _⟩, fun acc' us' hd => ⟨⟨⟨fun b o q => ?_, st2.st.len, fun i l o z1 z2 => ?_, st2.st.un⟩, st2.f, fun b o q hn => ?_, fun b q => ?_, st2.n, st2.o⟩, x.f.trans st.f, q2, q3, ⟨us', upd_same, hd⟩, wiped_wipe _ _⟩⟩
  · rw [upd_ne (ne_of_none q q2)]
    exact st2.st.le b o q
  · refine (st2.st.ok i l o z1 z2).mono (Same.refl _) fun q ys e3 ws w1 w2 => ⟨w1, ?_⟩
    have hq : q ≠ p := fun z => q3 ⟨i, ys, by rw [z1, e3, z]⟩
    rw [upd_ne hq]
    exact w2
  · rw [upd_ne (ne_of_none q hp)]
    exact st2.k b o q hn
  · by_cases hb : b = p
    · subst hb
      exact hp
    · rw [upd_ne hb] at q
      exact st2.t b q
theorem sim_lc {wi : TI} {ai : AI} {g : TG} {ag : AG} {L : List Nat} {vs : List Nat} (hi : SimI K wi ai) (hg : SimG K g ag L) (hL : ∀ j, j ∈ L → j ∈ vs) (ht : SimT K c ac1) (he : Sim K te a) : Sim K (tLc wi g c te vs) (aLc ai ag ac1 a vs) := fun s P q σ F H ok Q k => by
  refine hi s _ q σ F H ok _ fun ds s1 J F1 H1 q1 st1 hy p hp => ?_
  obtain ⟨G, Y, w, hG, hY⟩ := hy
  have hp0 : H p = none := st1.t p hp
  have no1 : ¬ Own s1 p := fun z => by
    obtain ⟨_, us, e⟩ := st1.st.own z
    rw [hp] at e
    cases e
  have f1 : F1 p = none := st1.st.le.free hp
  have start : LcAt K s F H σ p F1 vs (wipeS s1 vs) F1 (upd H1 p (.lst [])) [] := by
    have st2 : Step K s F H (wipeS s1 vs) F1 H1 σ := ⟨st1.st.outof rfl fun _ _ => rfl, st1.f, st1.k, st1.t, st1.n, fun p h => st1.o p (own_wipe h)⟩
    obtain ⟨st3, _⟩ := st2.leaf (Lf.newL (xs := []) st2.st.le hp rfl)
    exact ⟨st3, Same.refl _, f1, fun z => no1 (own_wipe z), ⟨[], upd_same, rfl⟩, wiped_wipe _ _⟩
  refine lc_it w (fun i H' => ∃ s' F' acc, aLcD ag ac1 a vs (ds.drop i) s' acc (fun acc s2 => P (.ow p acc) s2) ∧ LcAt K s F H σ p F1 vs s' F' H' acc) ⟨wipeS s1 vs, F1, [], by rw [List.drop_zero]; exact q1 p, start⟩ (fun i H' hi ⟨s', F', acc, _, x⟩ => hG H' (x.f.trans x.st.st.le)) ?_ ?_
  · rintro i v H' H2 hi ⟨s', F', acc, qq, x⟩ y
    have ed : ds.drop i = ds[i] :: ds.drop (i + 1) := List.drop_eq_getElem_cons hi
    rw [ed] at qq
    obtain ⟨F2, l⟩ := hY i H' v H2 (x.f.trans x.st.st.le) y ds[i] (List.getElem?_eq_getElem hi) F' x.f x.st.st.le
    obtain ⟨stl, rsl⟩ := (Step.refl (x.st.st.into x.w)).leaf l
    obtain ⟨w2, e1, e2⟩ := rsl.ok
    cases e1
    refine hg _ s' _ qq v (wipe σ vs) F2 H2 stl.st e2 _ fun s3 σ3 q3 st3 e3 l3 => ⟨wipe_eq l3 fun j hj => e3 j fun z => hj (hL j z), ?_⟩
    have st23 := stl.trans st3
    have hlen : σ3.length = σ.length := by rw [l3, wipe_length]
    have hout : ∀ j, j ∉ vs → σ3[j]? = σ[j]? := fun j hj => by rw [e3 j fun z => hj (hL j z), wipe_out hj]
    refine ht s3 _ q3 σ3 F2 H2 st3.st _ fun b s4 F4 H4 q4 st4 => ?_
    cases b with
    | false =>
      obtain ⟨x2, _⟩ := x.next hp0 (st23.trans st4) hlen hout
      exact ⟨wipeS s4 vs, F4, acc, q4, x2⟩
    | true =>
      refine he.d q4 st4.st fun r s5 v5 F5 H5 q5 st5 d5 => ?_
      have stA := (st23.trans st4).trans st5
      obtain ⟨x2, x3⟩ := x.next hp0 stA hlen hout
      obtain ⟨us, g1, g2⟩ := x2.pl
      refine ⟨us, g1, by rw [g2.length]; exact sz_lt q5.1, wipeS s5 vs, F5, _, q5.2, x3 _ _ (g2.append ⟨v5, [], rfl, d5, rfl⟩)⟩
  · rintro H' ⟨s', F', acc, qq, x⟩
    rw [List.drop_length] at qq
    obtain ⟨us, g1, g2⟩ := x.pl
    exact k _ s' (.ref p) F' H' qq x.st ⟨⟨rfl, x.pf, us, g1, g2⟩, fun q xs e => by
      cases e
      exact ⟨.inl hp0, x.po⟩⟩
def aYes : AT := fun s P => P true s
theorem simt_yes : SimT K tYes aYes := fun s P q σ F H ok Q k => k true s F H q (.refl ok)

/-! ### defs -/
/-- a def that takes data alone and changes none: n parameters, S what it does -/
def spD (K : PySem.W.Frag) (n : Nat) (S : ARC) : Sp := fun vs H Q _ => ∃ F ds P, Same F H ∧ DqA K F ds vs ∧ ds.length = n ∧ S ds P ∧ ∀ rs v F' H', P rs → Lf K F H rs v F' H' → Q v H'
def aFn (n : Nat) (S : ARC) : ARC := fun ds P => ds.length = n ∧ S ds P
theorem rc_fn {n : Nat} {S : ARC} : RC K (fun vs H Q => spD K n S (vs ++ []) H Q E0) (aFn n S) := fun ds P q F H xs le dx Q k => by
  show spD K n S (xs ++ []) H Q E0
  rw [List.append_nil]
  exact ⟨F, ds, P, le, dx, q.1, q.2, k⟩
theorem sim_call {n : Nat} {S : ARC} {t : TA} {a : AA} (ha : SimA K t a) : Sim K (tCall (spD K n S) [] E0 t) (aCall (aFn n S) a) := sim_cb (r := fun vs H Q => spD K n S (vs ++ []) H Q E0) rc_fn ha
/-- a def whose first parameter is a list that it may change: what it does, from the list's items, the other arguments; to the result and the list's items -/
abbrev ARM := List D → List D → (Sl → List D → Prop) → Prop
structure Lm (K : PySem.W.Frag) (p : Addr) (F H : Hp) (r : Sl) (v : V) (xs : List D) (F' H' : Hp) : Prop where
  f : Same F F'
  h : ∀ a o, a ≠ p → H a = some o → H' a = some o
  m : ∃ us, H' p = some (.lst us) ∧ DqA K F' xs us
  le : Same F' H'
  n : ∀ a, F' a ≠ none → F a ≠ none ∨ H a = none
  ok : SlOk K F' H' r (some v)
  fr : ∀ q ys, r = .ow q ys → H q = none
def spM (K : PySem.W.Frag) (n : Nat) (S : ARM) : Sp := fun vs H Q _ => ∃ F p xs us ds ws P, vs = .ref p :: ws ∧ Same F H ∧ F p = none ∧ H p = some (.lst us) ∧ DqA K F xs us ∧ DqA K F ds ws ∧ ds.length + 1 = n ∧ S xs ds P ∧
  ∀ rs xs' v F' H', P rs xs' → Lm K p F H rs v xs' F' H' → Q v H'
def aCallM (n : Nat) (j : Nat) (S : ARM) (a : AA) : AE := fun s P => match s[j]? with
  | some (.ow _ _) => a s fun ds s1 => match s1[j]? with
    | some (.ow p xs) => ds.length + 1 = n ∧ S xs ds fun rs xs' => P rs (s1.set j (.ow p xs'))
    | _ => False
  | _ => False
theorem sim_callM {n j : Nat} {S : ARM} {t : TA} {a : AA} (ha : SimA K t a) : Sim K (tCall (spM K n S) [] E0 (tCons (tVar j) t)) (aCallM n j S a) := fun s P q σ F H ok Q k => by
  unfold aCallM at q
  cases e : s[j]? with
  | none =>
    rw [e] at q
    exact q.elim
  | some l =>
    rw [e] at q
    cases l with
    | no => exact q.elim
    | pu d => exact q.elim
    | ow p0 xs0 =>
      obtain ⟨o, h1, h2⟩ := ok.get e
      obtain ⟨rfl, _⟩ := h2
      refine ⟨.ref p0, h1, ?_⟩
      refine ha s _ q σ F H ok _ fun ds s1 ws F1 H1 q1 st1 d1 => ?_
      cases e2 : s1[j]? with
      | none =>
        rw [e2] at q1
        exact q1.elim
      | some l =>
        rw [e2] at q1
        cases l with
        | no => exact q1.elim
        | pu d => exact q1.elim
        | ow p xs =>
          obtain ⟨q2, q3⟩ := q1
          obtain ⟨o, z1, z2⟩ := st1.st.get e2
          obtain ⟨z3, y1, us, y2, y3⟩ := z2
          rw [h1] at z1
          cases z1
          cases z3
          rw [List.append_nil]
          refine ⟨F1, _, xs, us, ds, ws, _, rfl, st1.st.le, y1, y2, y3, d1, q2, q3, fun rs xs' v F2 H2 hP l => ?_⟩
          have hF : ∀ b vs, F1 b = none → H1 b = some (.lst vs) → F2 b = none := fun b vs w1 w2 => by
            cases z : F2 b with
            | none => rfl
            | some o =>
              rcases l.n b (by rw [z]; intro y; cases y) with y | y
              · exact absurd w1 y
              · rw [w2] at y
                cases y
          obtain ⟨us2, m1, m2⟩ := l.m
          have stp : Step K s1 F1 H1 (s1.set j (.ow p0 xs')) F2 H2 σ := by
            refine ⟨⟨l.le, by rw [List.length_set, st1.st.len], fun i l2 o w1 w2 => ?_, fun i m q zs ws2 w1 w2 => ?_⟩, l.f, fun b o w1 w2 => ?_, fun b w1 => ?_, fun b w1 => ?_, fun b w1 => ?_⟩
            · rw [List.getElem?_set] at w1
              by_cases e3 : j = i
              · subst e3
                rw [if_pos rfl] at w1
                split at w1
                · cases w1
                  rw [h1] at w2
                  cases w2
                  exact ⟨rfl, hF _ _ y1 y2, us2, m1, m2⟩
                · cases w1
              · rw [if_neg e3] at w1
                refine (st1.st.ok i l2 o w1 w2).mono l.f fun b ys e4 vs x1 x2 => ⟨hF _ _ x1 x2, l.h b _ (fun z => ?_) x2⟩
                subst z
                rw [e4] at w1
                exact e3 (st1.st.un j i _ _ _ e2 w1)
            · have back : ∀ (m : Nat) (zs : List D), (s1.set j (.ow p0 xs'))[m]? = some (Sl.ow q zs) → ∃ ws, s1[m]? = some (Sl.ow q ws) := fun m zs h => by
                rw [List.getElem?_set] at h
                by_cases e2' : j = m
                · subst e2'
                  rw [if_pos rfl] at h
                  split at h
                  · cases h
                    exact ⟨xs, e2⟩
                  · cases h
                · rw [if_neg e2'] at h
                  exact ⟨zs, h⟩
              obtain ⟨u1, g1⟩ := back i zs w1
              obtain ⟨u2, g2⟩ := back m ws2 w2
              exact st1.st.un i m q u1 u2 g1 g2
            · refine l.h b o (fun z => w2 ?_) w1
              rw [z]
              exact ⟨j, xs, e2⟩
            · by_cases z : b = p0
              · subst z
                rw [m1] at w1
                cases w1
              · cases z2 : H1 b with
                | none => rfl
                | some o =>
                  rw [l.h b o z z2] at w1
                  cases w1
            · rcases l.n b w1 with z | z
              · exact .inl z
              · exact .inr (.inl z)
            · rcases own_set w1 with z | ⟨zs, z⟩
              · exact .inl z
              · cases z
                exact .inl ⟨j, xs, e2⟩
          refine k rs _ v F2 H2 hP (st1.trans stp) ⟨l.ok, fun q ys e3 => ?_⟩
          have z := l.fr q ys e3
          refine ⟨.inl (st1.t q z), fun w => ?_⟩
          rcases own_set w with w | ⟨zs, w⟩
          · obtain ⟨_, vs, w2⟩ := st1.st.own w
            rw [z] at w2
            cases w2
          · cases w
            rw [z] at y2
            cases y2
def startS (N : Nat) (l : List Sl) : Ss := l ++ List.replicate (N - l.length) .no
theorem start_ok {N : List Str} {vs : List V} {ls : List Sl} (le : Same F H) (hl : vs.length = ls.length) (ok : ∀ (i : Nat) (l : Sl) (v : V), ls[i]? = some l → vs[i]? = some v → SlOk K F H l (some v))
    (un : ∀ (i j : Nat) (p : Addr) (xs ys : List D), ls[i]? = some (.ow p xs) → ls[j]? = some (.ow p ys) → i = j) : StOk K F H (L2.start N vs) (startS N.length ls) where
  le := le
  len := by
    unfold L2.start startS
    rw [List.length_append, List.length_append, List.length_map, List.length_replicate, List.length_replicate, hl]
  ok := fun i l o h1 h2 => by
    unfold L2.start at h2
    unfold startS at h1
    by_cases hi : i < ls.length
    · rw [List.getElem?_append_left hi] at h1
      rw [List.getElem?_append_left (by rw [List.length_map, hl]; exact hi), List.getElem?_map] at h2
      cases e : vs[i]? with
      | none =>
        rw [e] at h2
        cases h2
      | some v =>
        rw [e] at h2
        cases h2
        exact ok i l v h1 e
    · rw [List.getElem?_append_right (by omega), List.getElem?_replicate] at h1
      split at h1
      · cases h1
        trivial
      · cases h1
  un := fun i j p xs ys h1 h2 => by
    have back : ∀ (m : Nat) (zs : List D), (startS N.length ls)[m]? = some (Sl.ow p zs) → ls[m]? = some (Sl.ow p zs) := fun m zs h => by
      unfold startS at h
      by_cases hi : m < ls.length
      · rw [List.getElem?_append_left hi] at h
        exact h
      · rw [List.getElem?_append_right (by omega), List.getElem?_replicate] at h
        split at h <;> cases h
    exact un i j p xs ys (back i xs h1) (back j ys h2)
theorem own_start {N : Nat} {ls : List Sl} {p : Addr} (h : Own (startS N ls) p) : ∃ (i : Nat) (xs : List D), ls[i]? = some (.ow p xs) := by
  obtain ⟨i, xs, h⟩ := h
  refine ⟨i, xs, ?_⟩
  unfold startS at h
  by_cases hi : i < ls.length
  · rw [List.getElem?_append_left hi] at h
    exact h
  · rw [List.getElem?_append_right (by omega), List.getElem?_replicate] at h
    split at h <;> cases h
def endsD (P : Sl → Prop) : AEnds := ⟨fun _ => P (.pu .non), fun r _ => P r, fun _ => False, fun _ => False⟩
def endsM (P : Sl → List D → Prop) (p : Addr) : AEnds := ⟨fun s => ∃ xs, s[0]? = some (.ow p xs) ∧ P (.pu .non) xs, fun r s => ∃ xs, s[0]? = some (.ow p xs) ∧ P r xs, fun _ => False, fun _ => False⟩
end
section
variable {P : Program} {w : World} {K : PySem.W.Frag} {mg : Str → Option Value} {base : Heap}
/-- THE RULE for a def over data -/
theorem okD {x qual : Str} {st : Stmt} {f : Addr} {fd : FuncData} {N ps : List Str} {k n : Nat} {S : ARC} (Fn : Fun K x qual st f fd) (Sc : FnScope N ps (defScope st)) (hn : ps.length = n)
    (hbody : ∀ (cdv : Value) (A : Around) (outer : List Env) (s : Shared) (H : Hp) (E : XK), (A.deeper (PyProof.Rows.envOfC qual (defScope st) s.heap.objs.size f cdv)).guards = some [] → Room k (A.deeper (PyProof.Rows.envOfC qual (defScope st) s.heap.objs.size f cdv)) → ∃ ts as, PSs (cxOf CX0 P w K mg base N qual (defScope st) f cdv A outer s H E).nox (defBody st) ts ∧ SimS K ts as ∧
      ∀ ds Q, ds.length = n → S ds Q → as (endsD Q) (startS N.length (ds.map .pu))) : GnOk P w K mg base CX0 (k + 1) f fd ps (spD K n S) := by
  refine gn_body Fn Sc (fun vs H Q E h => ?_) (fun cdv A outer s H vs Q E hgd hr h => ?_)
  · obtain ⟨F, ds, P, _, h1, h2, _⟩ := h
    rw [h1.length, h2, hn]
  · obtain ⟨F, ds, R, le, dx, hl, hS, kq⟩ := h
    obtain ⟨ts, as, h1, h2, h3⟩ := hbody cdv A outer s H E hgd hr
    refine ⟨ts, h1.nox, ?_⟩
    have ok0 : StOk K F H (L2.start N vs) (startS N.length (ds.map .pu)) := by
      refine start_ok le (by rw [List.length_map, dx.length]) (fun i l v e1 e2 => ?_) fun i j p xs ys e1 e2 => ?_
      · rw [List.getElem?_map] at e1
        cases e : ds[i]? with
        | none =>
          rw [e] at e1
          cases e1
        | some d =>
          rw [e] at e1
          cases e1
          obtain ⟨v2, g1, g2⟩ := dx.get e
          rw [e2] at g1
          cases g1
          exact ⟨v, rfl, g2⟩
      · rw [List.getElem?_map] at e1
        cases e : ds[i]? with
        | none =>
          rw [e] at e1
          cases e1
        | some d =>
          rw [e] at e1
          cases e1
    have no : ∀ p, ¬ Own (startS N.length (ds.map .pu)) p := fun p z => by
      obtain ⟨i, xs, e1⟩ := own_start z
      rw [List.getElem?_map] at e1
      cases e : ds[i]? with
      | none =>
        rw [e] at e1
        cases e1
      | some d =>
        rw [e] at e1
        cases e1
    have fin : ∀ r s' v σ' F' H', R r → Step K (startS N.length (ds.map .pu)) F H s' F' H' σ' → Rs K (startS N.length (ds.map .pu)) H F' H' s' r v → Q v H' := fun r s' v σ' F' H' q st rs =>
      kq r v F' H' q ⟨st.f, fun a o e => st.k a o e (no a), st.st.le, fun a z => by
        rcases st.n a z with y | y | y
        · exact .inl y
        · exact .inr y
        · exact absurd y (no a), rs.ok, fun p xs e => by
        rcases (rs.fr p xs e).1 with y | y
        · exact y
        · exact absurd y (no p)⟩
    exact h2 _ _ (h3 ds R hl hS) (L2.start N vs) F H ok0 _ (fun s' σ' F' H' q st => fin (.pu .non) s' .non σ' F' H' q st (.pu rfl)) (fun r s' σ' v F' H' q st rs => fin r s' v σ' F' H' q st rs) (fun _ _ _ _ q _ => q.elim) (fun _ _ _ _ q _ => q.elim)
/-- THE RULE for a def whose first parameter is a list that it may change -/
theorem okM {x qual : Str} {st : Stmt} {f : Addr} {fd : FuncData} {N ps : List Str} {k n : Nat} {S : ARM} (Fn : Fun K x qual st f fd) (Sc : FnScope N ps (defScope st)) (hn : ps.length = n)
    (hbody : ∀ (cdv : Value) (A : Around) (outer : List Env) (s : Shared) (H : Hp) (E : XK), (A.deeper (PyProof.Rows.envOfC qual (defScope st) s.heap.objs.size f cdv)).guards = some [] → Room k (A.deeper (PyProof.Rows.envOfC qual (defScope st) s.heap.objs.size f cdv)) → ∃ ts as, PSs (cxOf CX0 P w K mg base N qual (defScope st) f cdv A outer s H E).nox (defBody st) ts ∧ SimS K ts as ∧
      ∀ xs ds Q p, ds.length + 1 = n → S xs ds Q → as (endsM Q p) (startS N.length (.ow p xs :: ds.map .pu))) : GnOk P w K mg base CX0 (k + 1) f fd ps (spM K n S) := by
  refine gn_body Fn Sc (fun vs H Q E h => ?_) (fun cdv A outer s H vs Q E hgd hr h => ?_)
  · obtain ⟨F, p, xs, us, ds, ws, P, rfl, _, _, _, _, h1, h2, _⟩ := h
    rw [List.length_cons, h1.length, h2, hn]
  · obtain ⟨F, p, xs, us, ds, ws, R, rfl, le, hF, hH, dxs, dx, hl, hS, kq⟩ := h
    obtain ⟨ts, as, h1, h2, h3⟩ := hbody cdv A outer s H E hgd hr
    refine ⟨ts, h1.nox, ?_⟩
    have one : ∀ (i : Nat) (q : Addr) (ys : List D), ((Sl.ow p xs) :: ds.map .pu)[i]? = some (.ow q ys) → i = 0 ∧ q = p := fun i q ys e => by
      cases i with
      | zero =>
        cases e
        exact ⟨rfl, rfl⟩
      | succ i =>
        have e1 : (ds.map Sl.pu)[i]? = some (.ow q ys) := by simpa using e
        rw [List.getElem?_map] at e1
        cases e2 : ds[i]? with
        | none =>
          rw [e2] at e1
          cases e1
        | some d =>
          rw [e2] at e1
          cases e1
    have ok0 : StOk K F H (L2.start N (.ref p :: ws)) (startS N.length (.ow p xs :: ds.map .pu)) := by
      refine start_ok le (by rw [List.length_cons, List.length_cons, List.length_map, dx.length]) (fun i l v e1 e2 => ?_) fun i j q ys zs e1 e2 => ?_
      · cases i with
        | zero =>
          cases e1
          cases e2
          exact ⟨rfl, hF, us, hH, dxs⟩
        | succ i =>
          have e1 : (ds.map Sl.pu)[i]? = some l := by simpa using e1
          have e2 : ws[i]? = some v := by simpa using e2
          rw [List.getElem?_map] at e1
          cases e : ds[i]? with
          | none =>
            rw [e] at e1
            cases e1
          | some d =>
            rw [e] at e1
            cases e1
            obtain ⟨v2, g1, g2⟩ := dx.get e
            rw [e2] at g1
            cases g1
            exact ⟨v, rfl, g2⟩
      · rw [(one i q ys e1).1, (one j q zs e2).1]
    have ow1 : ∀ q, Own (startS N.length (.ow p xs :: ds.map .pu)) q → q = p := fun q z => by
      obtain ⟨i, ys, e1⟩ := own_start z
      exact (one i q ys e1).2
    have fin : ∀ r s' v σ' F' H', (∃ ys, s'[0]? = some (.ow p ys) ∧ R r ys) → Step K (startS N.length (.ow p xs :: ds.map .pu)) F H s' F' H' σ' → Rs K (startS N.length (.ow p xs :: ds.map .pu)) H F' H' s' r v → Q v H' := fun r s' v σ' F' H' q st rs => by
      obtain ⟨ys, e0, q⟩ := q
      obtain ⟨o, _, _, g1, us2, g2, g3⟩ := st.st.get e0
      refine kq r ys v F' H' q ⟨st.f, fun a o e z => st.k a o z fun y => e (ow1 a y), ⟨us2, g2, g3⟩, st.st.le, fun a z => ?_, rs.ok, fun q ys e => ?_⟩
      · rcases st.n a z with y | y | y
        · exact .inl y
        · exact .inr y
        · have := ow1 a y
          subst this
          exact absurd g1 z
      · obtain ⟨y1, y2⟩ := rs.fr q ys e
        rcases y1 with y | y
        · exact y
        · have := ow1 q y
          subst this
          exact absurd ⟨0, _, e0⟩ y2
    exact h2 _ _ (h3 xs ds R p hl hS) (L2.start N (.ref p :: ws)) F H ok0 _ (fun s' σ' F' H' q st => fin (.pu .non) s' .non σ' F' H' q st (.pu rfl)) (fun r s' σ' v F' H' q st rs => fin r s' v σ' F' H' q st rs) (fun _ _ _ _ q _ => q.elim) (fun _ _ _ _ q _ => q.elim)
end
end DL

namespace DL
open PySem L2

section
variable {K : PySem.W.Frag} {te ta tb tc : TE} {a aa ab ac : AE} {F H : Hp} {s : Ss} {σ : L2.St}
/-! ### isinstance -/
inductive TyN where
  | int | bool | str | tuple | list
def TyN.nm : TyN → String
  | .int => "int" | .bool => "bool" | .str => "str" | .tuple => "tuple" | .list => "list"
def tyD : D → Option String
  | .non => some "NoneType" | .bl _ => some "bool" | .int _ => some "int" | .str _ => some "str" | .tup _ => some "tuple" | .lst _ => some "list" | .scr _ => some "list" | .ob _ => none
def isi : TyN → D → Option Bool
  | _, .ob _ => none
  | .int, .int _ => some true
  | .int, .bl _ => some true
  | .bool, .bl _ => some true
  | .str, .str _ => some true
  | .tuple, .tup _ => some true
  | .list, .lst _ => some true
  | .list, .scr _ => some true
  | _, _ => some false
theorem ty_ok {d : D} {x : V} (le : Same F H) (h : Dq K F d x) {b : Bool} {T : TyN} (e : isi T d = some b) : ∃ t, tyD d = some t ∧ TyX K H x (.type t) := by
  cases d with
  | non =>
    cases (show x = _ from h)
    exact ⟨_, rfl, .base .non⟩
  | bl i =>
    cases (show x = _ from h)
    exact ⟨_, rfl, .base (.bl i)⟩
  | int i =>
    cases (show x = _ from h)
    exact ⟨_, rfl, .base (.int i)⟩
  | str i =>
    cases (show x = _ from h)
    exact ⟨_, rfl, .base (.str i)⟩
  | tup ds =>
    obtain ⟨a, xs, rfl, h1, _⟩ := h
    refine ⟨_, rfl, ?_⟩
    rcases h1 with (h1 | ⟨o, h1⟩) | ⟨o, its, n, h1, h2, _⟩
    · exact .base (.tup (le _ _ h1))
    · exact .fTuple (le _ _ h1)
    · exact .kTuple h1 h2
  | lst ds =>
    obtain ⟨a, xs, rfl, h1, _⟩ := h
    exact ⟨_, rfl, .base (.lst (le _ _ h1))⟩
  | scr ds =>
    obtain ⟨a, xs, rfl, h1, _⟩ := h
    refine ⟨_, rfl, ?_⟩
    rcases h1 with (h1 | ⟨o, h1⟩) | ⟨o, its, n, h1, h2, _⟩
    · exact .base (.lst (le _ _ h1))
    · exact .base (.frz (le _ _ h1))
    · exact .kList h1 h2
  | ob f => cases T <;> cases e
theorem kit_ok {d : D} {T : TyN} {b : Bool} {t : String} (e : isi T d = some b) (h : tyD d = some t) : kitB t T.nm = some b := by
  cases d <;> cases T <;> first | (cases h; done) | (cases h; cases e; decide +kernel)
def aIsi (T : TyN) (a : AE) : AE := fun s P => a s fun r s1 => match isi T r.d with
  | some b => P (.pu (.bl b)) s1
  | none => False
theorem sim_isi {T : TyN} (h : Sim K ta aa) : Sim K (tCB (rIsi K) (tCons ta (tCons (tC (.ty T.nm)) tNil))) (aIsi T aa) := fun s P q σ F H ok Q k => by
  refine h.d q ok fun r s1 v F1 H1 q1 st1 d1 => ?_
  cases e : isi T r.d with
  | none =>
    rw [e] at q1
    exact q1.elim
  | some b =>
    rw [e] at q1
    obtain ⟨t, g1, g2⟩ := ty_ok st1.st.le d1 e
    exact ⟨v, .ty T.nm, .type t, .type T.nm, b, rfl, .ty _, g2, kit_ty (kit_ok e g1), k _ s1 _ F1 H1 q1 st1 (.pu rfl)⟩

/-! ### calls of built-ins by values -/
def rI1 (f : Int → Int) : List V → Hp → VK → Prop := fun xs H Q => ∃ i, xs = [.int i] ∧ Q (.int (f i)) H
def aI1 (f : Int → Int) : ARC := fun ds P => match ds with
  | [.int i] => P (.pu (.int (f i)))
  | _ => False
theorem rc_i1 {f : Int → Int} : RC K (rI1 f) (aI1 f) := fun ds P q F H xs le dx Q k => by
  match ds, q, dx with
  | [.int i], q, dx =>
    obtain ⟨v, rfl, h⟩ := dqa1 dx
    cases (show v = _ from h)
    exact ⟨i, rfl, k _ _ F H q (Lf.same le _ _ rfl)⟩
def rI2 (f : Int → Int → Int) : List V → Hp → VK → Prop := fun xs H Q => ∃ i j, xs = [.int i, .int j] ∧ Q (.int (f i j)) H
def aI2 (f : Int → Int → Int) : ARC := fun ds P => match ds with
  | [.int i, .int j] => P (.pu (.int (f i j)))
  | _ => False
theorem rc_i2 {f : Int → Int → Int} : RC K (rI2 f) (aI2 f) := fun ds P q F H xs le dx Q k => by
  match ds, q, dx with
  | [.int i, .int j], q, dx =>
    obtain ⟨v, w, rfl, h, h2⟩ := dqa2 dx
    cases (show v = _ from h)
    cases (show w = _ from h2)
    exact ⟨i, j, rfl, k _ _ F H q (Lf.same le _ _ rfl)⟩
/-- int(x) of an int or a bool -/
def aInt : ARC := fun ds P => match ds with
  | [.int i] => P (.pu (.int i))
  | [.bl b] => P (.pu (.int (if b then 1 else 0)))
  | _ => False
theorem rc_int : RC K (fun xs H Q => (∃ i, xs = [.int i] ∧ Q (.int i) H) ∨ ∃ k, xs = [.bl k] ∧ Q (.int (if k then 1 else 0)) H) aInt := fun ds P q F H xs le dx Q k => by
  match ds, q, dx with
  | [.int i], q, dx =>
    obtain ⟨v, rfl, h⟩ := dqa1 dx
    cases (show v = _ from h)
    exact .inl ⟨i, rfl, k _ _ F H q (Lf.same le _ _ rfl)⟩
  | [.bl i], q, dx =>
    obtain ⟨v, rfl, h⟩ := dqa1 dx
    cases (show v = _ from h)
    exact .inr ⟨i, rfl, k _ _ F H q (Lf.same le _ _ rfl)⟩
/-- len -/
def aLen : ARC := fun ds P => match ds with
  | [d] => match seqD d with
    | some xs => P (.pu (.int xs.length))
    | none => False
  | _ => False
theorem rc_len : RC K (fun xs H Q => ∃ p ys, xs = [.ref p] ∧ (SqL K H p ys ∨ SqT K H p ys) ∧ Q (.int ys.length) H) aLen := fun ds P q F H xs le dx Q k => by
  match ds, q, dx with
  | [d], q, dx =>
    obtain ⟨v, rfl, h⟩ := dqa1 dx
    unfold aLen at q
    simp only at q
    cases e : seqD d with
    | none =>
      rw [e] at q
      exact q.elim
    | some es =>
      rw [e] at q
      obtain ⟨a, ys, rfl, g1, g2⟩ := seqD_ok e h
      refine ⟨a, ys, rfl, ?_, ?_⟩
      · rcases g1 with g1 | g1
        · exact .inl (Same.seq le g1)
        · exact .inr (Same.sqt le g1)
      · rw [g2.length]
        exact k _ _ F H q (Lf.same le _ _ rfl)
/-- the ints of a list of data -/
def intsD : List D → Option (List Int)
  | [] => some []
  | .int i :: ds => (intsD ds).map (i :: ·)
  | _ => none
theorem intsD_eq : ∀ {ds : List D} {ns : List Int}, intsD ds = some ns → ds = ns.map D.int
  | [], ns, h => by
    cases h
    rfl
  | d :: ds, ns, h => by
    cases d <;> first | (cases h; done) | skip
    rename_i i
    unfold intsD at h
    cases e : intsD ds with
    | none =>
      rw [e] at h
      cases h
    | some ms =>
      rw [e] at h
      cases h
      rw [intsD_eq e]
      rfl
theorem intsD_map : ∀ ns : List Int, intsD (ns.map D.int) = some ns
  | [] => rfl
  | n :: ns => by
    show (intsD (ns.map D.int)).map (n :: ·) = _
    rw [intsD_map ns]
    rfl
def blsD : List D → Option (List Bool)
  | [] => some []
  | .bl i :: ds => (blsD ds).map (i :: ·)
  | _ => none
theorem blsD_eq : ∀ {ds : List D} {ns : List Bool}, blsD ds = some ns → ds = ns.map D.bl
  | [], ns, h => by
    cases h
    rfl
  | d :: ds, ns, h => by
    cases d <;> first | (cases h; done) | skip
    rename_i i
    unfold blsD at h
    cases e : blsD ds with
    | none =>
      rw [e] at h
      cases h
    | some ms =>
      rw [e] at h
      cases h
      rw [blsD_eq e]
      rfl
theorem blsD_map : ∀ ns : List Bool, blsD (ns.map D.bl) = some ns
  | [] => rfl
  | n :: ns => by
    show (blsD (ns.map D.bl)).map (n :: ·) = _
    rw [blsD_map ns]
    rfl
def lstD : D → Option (List D)
  | .lst xs => some xs
  | .scr xs => some xs
  | _ => none
theorem lstD_ok {d : D} {ds : List D} {x : V} (h : lstD d = some ds) (dx : Dq K F d x) : ∃ a xs, x = .ref a ∧ SqL K F a xs ∧ DqA K F ds xs := by
  cases d <;> first | (cases h; done) | skip
  · cases h
    obtain ⟨a, xs, h1, h2, h3⟩ := dx
    exact ⟨a, xs, h1, SqL.of h2, h3⟩
  · cases h
    obtain ⟨a, xs, h1, h2, h3⟩ := dx
    exact ⟨a, xs, h1, h2, h3⟩
/-- a function of a list of ints, of bools -/
def aInts (f : List Int → (D → Prop) → Prop) : ARC := fun ds P => match ds with
  | [d] => match (lstD d).bind intsD with
    | some ns => f ns fun d => P (.pu d)
    | none => False
  | _ => False
def aBls (f : List Bool → Bool) : ARC := fun ds P => match ds with
  | [d] => match (lstD d).bind blsD with
    | some ns => P (.pu (.bl (f ns)))
    | none => False
  | _ => False
theorem ints_in {ds : List D} {P : Sl → Prop} {f : List Int → (D → Prop) → Prop} {xs : List V} (le : Same F H) (q : aInts f ds P) (dx : DqA K F ds xs) : ∃ (a : Addr) (ns : List Int), xs = [V.ref a] ∧ SqL K H a (ns.map V.int) ∧ f ns fun d => P (.pu d) := by
  match ds, q, dx with
  | [d], q, dx =>
    obtain ⟨v, rfl, h⟩ := dqa1 dx
    unfold aInts at q
    simp only at q
    cases e : lstD d with
    | none =>
      rw [e] at q
      exact q.elim
    | some es =>
      rw [e] at q
      simp only [Option.bind_some] at q
      cases e2 : intsD es with
      | none =>
        rw [e2] at q
        exact q.elim
      | some ns =>
        rw [e2] at q
        obtain ⟨a, ys, rfl, g1, g2⟩ := lstD_ok e h
        rw [intsD_eq e2] at g2
        have e3 := of_dqa_ints _ _ g2
        subst e3
        exact ⟨a, ns, rfl, Same.seq le g1, q⟩
theorem bls_in {ds : List D} {P : Sl → Prop} {f : List Bool → Bool} {xs : List V} (le : Same F H) (q : aBls f ds P) (dx : DqA K F ds xs) : ∃ (a : Addr) (ns : List Bool), xs = [V.ref a] ∧ SqL K H a (ns.map V.bl) ∧ P (.pu (.bl (f ns))) := by
  match ds, q, dx with
  | [d], q, dx =>
    obtain ⟨v, rfl, h⟩ := dqa1 dx
    unfold aBls at q
    simp only at q
    cases e : lstD d with
    | none =>
      rw [e] at q
      exact q.elim
    | some es =>
      rw [e] at q
      simp only [Option.bind_some] at q
      cases e2 : blsD es with
      | none =>
        rw [e2] at q
        exact q.elim
      | some ns =>
        rw [e2] at q
        obtain ⟨a, ys, rfl, g1, g2⟩ := lstD_ok e h
        rw [blsD_eq e2] at g2
        have e3 := of_dqa_bls _ _ g2
        subst e3
        exact ⟨a, ns, rfl, Same.seq le g1, q⟩
def fSum : List Int → (D → Prop) → Prop := fun ns P => P (.int ns.sum)
def fMax : List Int → (D → Prop) → Prop := fun ns P => 0 < ns.length ∧ ∀ m, m ∈ ns → (∀ y, y ∈ ns → y ≤ m) → P (.int m)
def fMin : List Int → (D → Prop) → Prop := fun ns P => 0 < ns.length ∧ ∀ m, m ∈ ns → (∀ y, y ∈ ns → m ≤ y) → P (.int m)
theorem rc_sum : RC K (rSum K) (aInts fSum) := fun ds P q F H xs le dx Q k => by
  obtain ⟨a, ns, rfl, h1, h2⟩ := ints_in le q dx
  exact ⟨a, ns, rfl, h1, k _ _ F H h2 (Lf.same le _ _ rfl)⟩
theorem rc_max : RC K (rMax K) (aInts fMax) := fun ds P q F H xs le dx Q k => by
  obtain ⟨a, ns, rfl, h1, h2, h3⟩ := ints_in le q dx
  exact ⟨a, ns, rfl, h1, h2, fun m g1 g2 => k _ _ F H (h3 m g1 g2) (Lf.same le _ _ rfl)⟩
theorem rc_min : RC K (rMin K) (aInts fMin) := fun ds P q F H xs le dx Q k => by
  obtain ⟨a, ns, rfl, h1, h2, h3⟩ := ints_in le q dx
  exact ⟨a, ns, rfl, h1, h2, fun m g1 g2 => k _ _ F H (h3 m g1 g2) (Lf.same le _ _ rfl)⟩
theorem rc_all : RC K (rAll K) (aBls fun bs => bs.all id) := fun ds P q F H xs le dx Q k => by
  obtain ⟨a, ns, rfl, h1, h2⟩ := bls_in le q dx
  exact ⟨a, ns, rfl, h1, k _ _ F H h2 (Lf.same le _ _ rfl)⟩
theorem rc_any : RC K (rAny K) (aBls fun bs => bs.any id) := fun ds P q F H xs le dx Q k => by
  obtain ⟨a, ns, rfl, h1, h2⟩ := bls_in le q dx
  exact ⟨a, ns, rfl, h1, k _ _ F H h2 (Lf.same le _ _ rfl)⟩
/-- sum of a tuple of ints -/
def rSumT (K : PySem.W.Frag) : List V → Hp → VK → Prop := fun vs H Q => ∃ (a : Addr) (ns : List Int), vs = [V.ref a] ∧ SqT K H a (ns.map V.int) ∧ Q (.int ns.sum) H
theorem cr_sumT {X : Cx} (hc : X.calm = true) : CallR X (.builtin "sum") (rSumT X.K) := by
  intro pins s σ H vs us Q I r h
  obtain ⟨a, ns, rfl, hs, q⟩ := h
  obtain ⟨its, rv, ht, hz⟩ := I.tuple hs
  rw [Vals.ref1 r]
  have hi := rv.ints
  obtain ⟨xs, e⟩ := hi.allInts.items
  have hn : numsOf (intItems xs).toList = ns := by rw [← e]; exact hi.numsOf
  rw [nums_intItems] at hn
  rw [e] at ht
  refine PySem.W.ktm_sumG (I.ok.hd hc) ht fun h' tk t' hk => ?_
  rw [preSum_eq, List.take_of_length_le (by simp), hn]
  exact ⟨.int _, H, I.kept hk, ⟨_, rfl⟩, q⟩
def aIntsT (f : List Int → (D → Prop) → Prop) : ARC := fun ds P => match ds with
  | [.tup es] => match intsD es with
    | some ns => f ns fun d => P (.pu d)
    | none => False
  | _ => False
theorem rc_sumT : RC K (rSumT K) (aIntsT fSum) := fun ds P q F H xs le dx Q k => by
  match ds, q, dx with
  | [.tup es], q, dx =>
    obtain ⟨v, rfl, h⟩ := dqa1 dx
    unfold aIntsT at q
    simp only at q
    cases e2 : intsD es with
    | none =>
      rw [e2] at q
      exact q.elim
    | some ns =>
      rw [e2] at q
      obtain ⟨a, ys, rfl, g1, g2⟩ := h
      rw [intsD_eq e2] at g2
      have e3 := of_dqa_ints _ _ g2
      subst e3
      exact ⟨a, ns, rfl, Same.sqt le g1, k _ _ F H q (Lf.same le _ _ rfl)⟩
/-- list(x), tuple(x) -/
def aList : ARC := fun ds P => match ds with
  | [d] => match seqD d with
    | some xs => ∀ p, P (.ow p xs)
    | none => False
  | _ => False
theorem rc_list : RC K (fun xs H Q => ∃ p ys, xs = [.ref p] ∧ (SqL K H p ys ∨ SqT K H p ys) ∧ ∀ l, H l = none → Q (.ref l) (upd H l (.lst ys))) aList := fun ds P q F H xs le dx Q k => by
  match ds, q, dx with
  | [d], q, dx =>
    obtain ⟨v, rfl, h⟩ := dqa1 dx
    unfold aList at q
    simp only at q
    cases e : seqD d with
    | none =>
      rw [e] at q
      exact q.elim
    | some es =>
      rw [e] at q
      obtain ⟨a, ys, rfl, g1, g2⟩ := seqD_ok e h
      refine ⟨a, ys, rfl, ?_, fun p hp => k _ _ _ _ (q p) (Lf.newL le hp g2)⟩
      rcases g1 with g1 | g1
      · exact .inl (Same.seq le g1)
      · exact .inr (Same.sqt le g1)
def aTupl : ARC := fun ds P => match ds with
  | [d] => match seqD d with
    | some xs => P (.pu (.tup xs))
    | none => False
  | _ => False
theorem rc_tupl : RC K (fun xs H Q => ∃ p ys, xs = [.ref p] ∧ ((SqL K H p ys ∧ ∀ l, H l = none → Q (.ref l) (upd H l (.tup ys))) ∨ (SqT K H p ys ∧ Q (.ref p) H))) aTupl := fun ds P q F H xs le dx Q k => by
  match ds, q, dx with
  | [d], q, dx =>
    obtain ⟨v, rfl, h⟩ := dqa1 dx
    unfold aTupl at q
    simp only at q
    cases e : seqD d with
    | none =>
      rw [e] at q
      exact q.elim
    | some es =>
      rw [e] at q
      obtain ⟨a, ys, rfl, g1, g2⟩ := seqD_ok e h
      refine ⟨a, ys, rfl, ?_⟩
      rcases g1 with g1 | g1
      · exact .inl ⟨Same.seq le g1, fun p hp => k _ _ _ _ q (Lf.newT le hp g2)⟩
      · exact .inr ⟨Same.sqt le g1, k _ _ F H q (Lf.same le _ _ ⟨a, ys, rfl, g1, g2⟩)⟩

/-! ### slices -/
def cutD (xs : List D) (lo hi : Option Int) : List D := (xs.drop (HT.sIx xs.length 0 lo)).take (HT.sIx xs.length xs.length hi - HT.sIx xs.length 0 lo)
theorem cut_ok {ds : List D} {xs : List V} {lo hi : Option Int} (h : DqA K F ds xs) : DqA K F (cutD ds lo hi) (cutV xs lo hi) := by
  unfold cutD cutV
  rw [h.length]
  exact (h.drop _).take _
abbrev AO := Ss → (Option Int → Ss → Prop) → Prop
def SimO (K : PySem.W.Frag) (to : TO) (a : AO) : Prop := ∀ s P, a s P → ∀ σ F H, StOk K F H σ s → ∀ Q : Option Int → Hp → Prop,
  (∀ o s' F' H', P o s' → Step K s F H s' F' H' σ → Q o H') → to σ H Q
def aNoP : AO := fun s P => P none s
def aPart (a : AE) : AO := fun s P => a s fun r s1 => match r.d with
  | .int i => P (some i) s1
  | _ => False
theorem simo_no : SimO K tNoPart aNoP := fun s P q σ F H ok Q k => k none s F H q (.refl ok)
theorem simo_part (h : Sim K te a) : SimO K (tPart te) (aPart a) := fun s P q σ F H ok Q k => by
  refine h.d q ok fun r s1 v F1 H1 q1 st1 d1 => ?_
  cases e : r.d <;> simp only [e] at q1
  rename_i i
  rw [e] at d1
  exact ⟨i, d1, k (some i) s1 F1 H1 q1 st1⟩
def aSlL (a : AE) (l u : AO) : AE := fun s P => a s fun r s1 => l s1 fun lo s2 => u s2 fun hi s3 => match lstD r.d with
  | some xs => ∀ p, P (.ow p (cutD xs lo hi)) s3
  | none => False
theorem sim_slL {tl tu : TO} {al au : AO} (h : Sim K te a) (hl : SimO K tl al) (hu : SimO K tu au) : Sim K (tSl (rSlL K) te tl tu) (aSlL a al au) := fun s P q σ F H ok Q k => by
  refine h.d q ok fun r s1 v F1 H1 q1 st1 d1 => ?_
  refine hl s1 _ q1 σ F1 H1 st1.st _ fun lo s2 F2 H2 q2 st2 => ?_
  refine hu s2 _ q2 σ F2 H2 st2.st _ fun hi s3 F3 H3 q3 st3 => ?_
  cases e : lstD r.d with
  | none =>
    rw [e] at q3
    exact q3.elim
  | some es =>
    rw [e] at q3
    obtain ⟨b, ys, rfl, g1, g2⟩ := lstD_ok e d1
    have sm := st2.f.trans st3.f
    refine ⟨b, ys, rfl, Same.seq st3.st.le (Same.seq sm g1), fun p hp => ?_⟩
    obtain ⟨st4, rs4⟩ := ((st1.trans st2).trans st3).leaf (Lf.newL st3.st.le hp (cut_ok (DqA.mono sm _ _ g2)))
    exact k _ s3 _ _ _ (q3 p) st4 rs4
def aSlT (a : AE) (l u : AO) : AE := fun s P => a s fun r s1 => l s1 fun lo s2 => u s2 fun hi s3 => match r.d with
  | .tup xs => P (.pu (.tup (cutD xs lo hi))) s3
  | _ => False
theorem cutV_whole {xs : List V} {lo hi : Option Int} (h : HT.sIx xs.length 0 lo = 0 ∧ HT.sIx xs.length xs.length hi = xs.length) : cutV xs lo hi = xs := by
  unfold cutV
  rw [h.1, h.2, List.drop_zero, Nat.sub_zero, List.take_length]
theorem sim_slT {tl tu : TO} {al au : AO} (h : Sim K te a) (hl : SimO K tl al) (hu : SimO K tu au) : Sim K (tSl (rSlA K) te tl tu) (aSlT a al au) := fun s P q σ F H ok Q k => by
  refine h.d q ok fun r s1 v F1 H1 q1 st1 d1 => ?_
  refine hl s1 _ q1 σ F1 H1 st1.st _ fun lo s2 F2 H2 q2 st2 => ?_
  refine hu s2 _ q2 σ F2 H2 st2.st _ fun hi s3 F3 H3 q3 st3 => ?_
  cases e : r.d <;> simp only [e] at q3
  rename_i es
  rw [e] at d1
  obtain ⟨b, ys, rfl, g1, g2⟩ := d1
  have sm := st2.f.trans st3.f
  have g3 := DqA.mono sm _ _ g2
  refine ⟨b, ys, rfl, Same.sqt st3.st.le (Same.sqt sm g1), fun hw => ?_, fun _ p hp => ?_⟩
  · refine k _ s3 _ F3 H3 q3 ((st1.trans st2).trans st3) (.pu ⟨b, ys, rfl, Same.sqt sm g1, ?_⟩)
    have g4 := cut_ok (lo := lo) (hi := hi) g3
    rw [cutV_whole hw] at g4
    exact g4
  · obtain ⟨st4, rs4⟩ := ((st1.trans st2).trans st3).leaf (Lf.newT st3.st.le hp (cut_ok g3))
    exact k _ s3 _ _ _ q3 st4 rs4
end
end DL

namespace DL
open PySem L2

structure DE (X : Cx) (e : Expr) (t : TE) (a : AE) : Prop where
  pe : PE X e t
  sm : Sim X.K t a
structure DT (X : Cx) (e : Expr) (t : TT) (a : AT) : Prop where
  pe : PT X e t
  sm : SimT X.K t a
structure DW (X : Cx) (e : Expr) (t : TT) (a : AT) : Prop where
  pe : PW X e t
  sm : SimT X.K t a
structure DA (X : Cx) (es : List Expr) (t : TA) (a : AA) : Prop where
  pe : PA X es t
  sm : SimA X.K t a
structure DS (X : Cx) (st : Stmt) (t : TS) (a : AS) : Prop where
  pe : PS X st t
  sm : SimS X.K t a
structure DSs (X : Cx) (st : List Stmt) (t : TS) (a : AS) : Prop where
  pe : PSs X st t
  sm : SimS X.K t a
structure DG (X : Cx) (e : Expr) (t : TG) (a : AG) (L : List Nat) : Prop where
  pe : PG X e t
  sm : SimG X.K t a L
  ex : ∀ d s P, a d s P → ∃ s1, P s1
structure DGs (X : Cx) (es : List Expr) (t : TGs) (a : AGs) (L : List Nat) (n : Nat) : Prop where
  pe : PGs X es t
  sm : SimGs X.K t a L
  ex : ∀ ds s P, a ds s P → ds.length = n ∧ ∃ s1, P s1
structure DI (X : Cx) (tg it : Expr) (t : TI) (a : AI) : Prop where
  pe : PI X tg it t
  sm : SimI X.K t a
structure DO (X : Cx) (e : Option Expr) (t : TO) (a : AO) : Prop where
  pe : PO X e t
  sm : SimO X.K t a

section
variable {X : Cx} {te ta tb tc : TE} {a aa ab ac : AE} {e ea eb ec : Expr} {es : List Expr} {pos p : Pos} {t u : TT} {at1 au : AT} {ts tu : TS} {as aus : AS}
theorem d_var (i : Nat) {x : Str} (hN : X.N[i]? = some x := by rfl) (hv : Vis X.env.scope x := by first | exact Or.inl rfl | exact Or.inr (Or.inl rfl) | exact Or.inr (Or.inr rfl)) (hd : (x == ("__debug__" : Str)) = false := by decide)
    (hcd : (x == ("__classdict__" : Str)) = false := by decide) : DE X (.Name x pos) (tVar i) (aVar i) := ⟨pe_var hN hv hd hcd, sim_var⟩
theorem d_mov (i : Nat) {x : Str} (hN : X.N[i]? = some x := by rfl) (hv : Vis X.env.scope x := by first | exact Or.inl rfl | exact Or.inr (Or.inl rfl) | exact Or.inr (Or.inr rfl)) (hd : (x == ("__debug__" : Str)) = false := by decide)
    (hcd : (x == ("__classdict__" : Str)) = false := by decide) : DE X (.Name x pos) (tVar i) (aMov i) := ⟨pe_var hN hv hd hcd, sim_mov⟩
theorem d_int {i j} : DE X (.Constant (.int i) j pos) (tC (.int i)) (aC (.int i)) := ⟨pe_int, sim_c fun _ => rfl⟩
theorem d_bl {b j} : DE X (.Constant (.bool b) j pos) (tC (.bl b)) (aC (.bl b)) := ⟨pe_bl, sim_c fun _ => rfl⟩
theorem d_non {j} : DE X (.Constant .none j pos) (tC .non) (aC .non) := ⟨pe_non, sim_c fun _ => rfl⟩
theorem d_str {x j} : DE X (.Constant (.str x) j pos) (tC (.str x)) (aC (.str x)) := ⟨pe_str, sim_c fun _ => rfl⟩
/-- a constant of the module -/
def Cst (K : PySem.W.Frag) (mg : Str → Option Value) (x : Str) (d : D) : Prop := ∃ u v, mg x = some u ∧ RelV v u ∧ ∀ F, Dq K F d v
theorem d_glob {x : Str} {d : D} (c : Cst X.K X.mg x d) (hg : Gl X x := by rfl) (hd : (x == ("__debug__" : Str)) = false := by decide) : ∃ v, DE X (.Name x pos) (tC v) (aC d) := by
  obtain ⟨u, v, h1, h2, h3⟩ := c
  exact ⟨v, pe_glob hg h1 h2 hd, sim_c h3⟩
theorem d_gint {x : Str} {i : Int} (c : ∃ t, X.mg x = some (.int i t)) (hg : Gl X x := by rfl) (hd : (x == ("__debug__" : Str)) = false := by decide) : DE X (.Name x pos) (tC (.int i)) (aC (.int i)) := by
  obtain ⟨u, h1⟩ := c
  exact ⟨pe_glob hg h1 ⟨u, rfl⟩ hd, sim_c fun _ => rfl⟩
theorem d_gstr {x : Str} {i : Str} (c : ∃ t, X.mg x = some (.str i t)) (hg : Gl X x := by rfl) (hd : (x == ("__debug__" : Str)) = false := by decide) : DE X (.Name x pos) (tC (.str i)) (aC (.str i)) := by
  obtain ⟨u, h1⟩ := c
  exact ⟨pe_glob hg h1 ⟨u, rfl⟩ hd, sim_c fun _ => rfl⟩
theorem d_gtup {x : Str} {q : Addr} {xs : List V} {ds : List D} (c : X.mg x = some (.ref q)) (h : ∀ F, SqT X.K F q xs) (hd2 : ∀ F, DqA X.K F ds xs) (hg : Gl X x := by rfl) (hd : (x == ("__debug__" : Str)) = false := by decide) : DE X (.Name x pos) (tC (.ref q)) (aC (.tup ds)) :=
  ⟨pe_glob hg c rfl hd, sim_c fun F => ⟨q, xs, rfl, h F, hd2 F⟩⟩
theorem d_op {op : Operator} {r : R2} {ar : AR2} (ho : OpR X (binaryOp op) r) (hr : RD X.K r ar) (ha : DE X ea ta aa) (hb : DE X eb tb ab) : DE X (.BinOp ea op eb pos) (tOp r ta tb) (aOp ar aa ab) := ⟨pe_op ho ha.pe hb.pe, sim_op hr ha.sm hb.sm⟩
theorem d_add (ha : DE X ea ta aa) (hb : DE X eb tb ab) : DE X (.BinOp ea .Add eb pos) (tOp (rI0 fun i j => .int (i + j)) ta tb) (aOp (aI fun i j => i + j) aa ab) := d_op op_add rd_i ha hb
theorem d_sub (ha : DE X ea ta aa) (hb : DE X eb tb ab) : DE X (.BinOp ea .Sub eb pos) (tOp (rI0 fun i j => .int (i - j)) ta tb) (aOp (aI fun i j => i - j) aa ab) := d_op op_sub rd_i ha hb
theorem d_mul (ha : DE X ea ta aa) (hb : DE X eb tb ab) : DE X (.BinOp ea .Mult eb pos) (tOp (rI CMul fun i j => .int (i * j)) ta tb) (aOp (aIC CMul fun i j => i * j) aa ab) := d_op op_mul rd_ic ha hb
theorem d_mulW (ha : DE X ea ta aa) (hb : DE X eb tb ab) : DE X (.BinOp ea .Mult eb pos) (tOp (rI CMulW fun i j => .int (i * j)) ta tb) (aOp (aIC CMulW fun i j => i * j) aa ab) := d_op op_mulW rd_ic ha hb
theorem d_fdiv (ha : DE X ea ta aa) (hb : DE X eb tb ab) : DE X (.BinOp ea .FloorDiv eb pos) (tOp (rI CDiv fun i j => .int (i / j)) ta tb) (aOp (aIC CDiv fun i j => i / j) aa ab) := d_op op_fdiv rd_ic ha hb
theorem d_fdivW (ha : DE X ea ta aa) (hb : DE X eb tb ab) : DE X (.BinOp ea .FloorDiv eb pos) (tOp (rI CDivW fun i j => .int (i / j)) ta tb) (aOp (aIC CDivW fun i j => i / j) aa ab) := d_op op_fdivW rd_ic ha hb
theorem d_mod (ha : DE X ea ta aa) (hb : DE X eb tb ab) : DE X (.BinOp ea .Mod eb pos) (tOp (rI (fun _ j => 0 < j) fun i j => .int (i % j)) ta tb) (aOp (aIC (fun _ j => 0 < j) fun i j => i % j) aa ab) := d_op op_mod rd_ic ha hb
theorem d_pow (ha : DE X ea ta aa) (hb : DE X eb tb ab) : DE X (.BinOp ea .Pow eb pos) (tOp (rI CPow fun i j => .int (i ^ j.toNat)) ta tb) (aOp (aIC CPow fun i j => i ^ j.toNat) aa ab) := d_op op_pow rd_ic ha hb
def aNeg (a : AE) : AE := fun s P => a s fun r s1 => match r.d with
  | .int i => P (.pu (.int (-i))) s1
  | _ => False
theorem d_neg (ha : DE X ea ta aa) : DE X (.UnaryOp .USub ea pos) (tUn (rU fun i => .int (-i)) ta) (aNeg aa) := ⟨pe_un un_neg ha.pe, fun s P q σ F H ok Q k => by
  refine ha.sm.d q ok fun r s1 v F1 H1 q1 st1 d1 => ?_
  cases e : r.d <;> simp only [e] at q1
  rename_i i
  rw [e] at d1
  exact ⟨i, d1, k _ s1 _ F1 H1 q1 st1 (.pu rfl)⟩⟩
theorem d_cmp {op : CmpOp} {r : R2} {ar : AR2} (ho : OpR X (compareOp op) r) (hr : RD X.K r ar) (ha : DE X ea ta aa) (hb : DE X eb tb ab) (hm : behindInMarks op eb = false) : DE X (.Compare ea [op] [eb] pos) (tOp r ta tb) (aOp ar aa ab) :=
  ⟨pe_cmpR ho ha.pe hb.pe hm, sim_op hr ha.sm hb.sm⟩
theorem t_cmp {op : CmpOp} {r : R2} {ar : AR2} (ho : OpR X (compareOp op) r) (hr : RD X.K r ar) (ha : DE X ea ta aa) (hb : DE X eb tb ab) (hm : behindInMarks op eb = false) : DT X (.Compare ea [op] [eb] pos) (tTest (tOp r ta tb)) (aTest (aOp ar aa ab)) :=
  ⟨pt_cmpR ho ha.pe hb.pe hm, sim_test (sim_op hr ha.sm hb.sm)⟩
theorem d_chain {op op' : CmpOp} {r r' : R2} {ar ar' : AR2} (ho : OpR X (compareOp op) r) (hr : RD X.K r ar) (ho' : OpR X (compareOp op') r') (hr' : RD X.K r' ar') (ha : DE X ea ta aa) (hb : DE X eb tb ab) (hc : DE X ec tc ac)
    (hm : lastMarks [op, op'] [eb, ec] = false := by with_unfolding_all rfl) : DE X (.Compare ea [op, op'] [eb, ec] pos) (tChain r r' ta tb tc) (aChain ar ar' aa ab ac) := ⟨pe_chain ho ho' ha.pe hb.pe hc.pe hm, sim_chain hr hr' ha.sm hb.sm hc.sm⟩
theorem t_chain {op op' : CmpOp} {r r' : R2} {ar ar' : AR2} (ho : OpR X (compareOp op) r) (hr : RD X.K r ar) (ho' : OpR X (compareOp op') r') (hr' : RD X.K r' ar') (ha : DE X ea ta aa) (hb : DE X eb tb ab) (hc : DE X ec tc ac)
    (hm : lastMarks [op, op'] [eb, ec] = false := by with_unfolding_all rfl) : DT X (.Compare ea [op, op'] [eb, ec] pos) (tTest (tChain r r' ta tb tc)) (aTest (aChain ar ar' aa ab ac)) := ⟨pt_chain ho ho' ha.pe hb.pe hc.pe hm, sim_test (sim_chain hr hr' ha.sm hb.sm hc.sm)⟩
theorem d_in {K : PySem.W.Frag} (hK : X.K = K := by rfl) (ha : DE X ea ta aa) (hb : DE X eb tb ab) (hm : behindInMarks .In eb = false := by rfl) : DE X (.Compare ea [.In] [eb] pos) (tOp (rIn K false) ta tb) (aOp (aIn false) aa ab) := by
  subst hK
  exact d_cmp op_in_seq rd_in ha hb hm
theorem d_nin {K : PySem.W.Frag} (hK : X.K = K := by rfl) (ha : DE X ea ta aa) (hb : DE X eb tb ab) (hm : behindInMarks .NotIn eb = false := by rfl) : DE X (.Compare ea [.NotIn] [eb] pos) (tOp (rIn K true) ta tb) (aOp (aIn true) aa ab) := by
  subst hK
  exact d_cmp op_notIn_seq rd_in ha hb hm
theorem t_in {K : PySem.W.Frag} (hK : X.K = K := by rfl) (ha : DE X ea ta aa) (hb : DE X eb tb ab) (hm : behindInMarks .In eb = false := by rfl) : DT X (.Compare ea [.In] [eb] pos) (tTest (tOp (rIn K false) ta tb)) (aTest (aOp (aIn false) aa ab)) := by
  subst hK
  exact t_cmp op_in_seq rd_in ha hb hm
theorem t_nin {K : PySem.W.Frag} (hK : X.K = K := by rfl) (ha : DE X ea ta aa) (hb : DE X eb tb ab) (hm : behindInMarks .NotIn eb = false := by rfl) : DT X (.Compare ea [.NotIn] [eb] pos) (tTest (tOp (rIn K true) ta tb)) (aTest (aOp (aIn true) aa ab)) := by
  subst hK
  exact t_cmp op_notIn_seq rd_in ha hb hm
theorem t_val (h : DE X ea ta aa) (he : ∀ whole, isTrue ea X.env whole = (do let v ← whole; standAt ea.pos; holding [v] (truthy v)) := by intro _; rfl) : DT X ea (tB ta) (aTest aa) := ⟨pt_val h.pe he, sim_B h.sm⟩
theorem t_not (h : DT X ea t at1) : DT X (.UnaryOp .Not ea pos) (tNot t) (aNot at1) := ⟨pt_not h.pe, sim_not h.sm⟩
theorem w_and1 (h : DT X ea t at1) : DW X (.BoolOp .And [ea] pos) t at1 := ⟨pw_and1 h.pe, h.sm⟩
theorem w_or1 (h : DT X ea t at1) : DW X (.BoolOp .Or [ea] pos) t at1 := ⟨pw_or1 h.pe, h.sm⟩
theorem w_and (h : DT X ea t at1) (h2 : DW X (.BoolOp .And (eb :: es) pos) u au) : DW X (.BoolOp .And (ea :: eb :: es) pos) (tAnd t u) (aAnd at1 au) := ⟨pw_and h.pe h2.pe, sim_and h.sm h2.sm⟩
theorem w_or (h : DT X ea t at1) (h2 : DW X (.BoolOp .Or (eb :: es) pos) u au) : DW X (.BoolOp .Or (ea :: eb :: es) pos) (tOr t u) (aOr at1 au) := ⟨pw_or h.pe h2.pe, sim_or h.sm h2.sm⟩
theorem t_w (h : DW X ea t at1) : DT X ea t at1 := ⟨h.pe.pt, h.sm⟩
theorem d_one {op} (h : DE X ea ta aa) : DE X (.BoolOp op [ea] pos) ta aa := ⟨pe_one h.pe, h.sm⟩
theorem d_and (h : DE X ea ta aa) (h2 : DE X (.BoolOp .And (eb :: es) pos) tb ab) : DE X (.BoolOp .And (ea :: eb :: es) pos) (tAndV ta tb) (aAndV aa ab) := ⟨pe_and h.pe h2.pe, sim_andV h.sm h2.sm⟩
theorem d_or (h : DE X ea ta aa) (h2 : DE X (.BoolOp .Or (eb :: es) pos) tb ab) : DE X (.BoolOp .Or (ea :: eb :: es) pos) (tOrV ta tb) (aOrV aa ab) := ⟨pe_or h.pe h2.pe, sim_orV h.sm h2.sm⟩
theorem d_not (h : DE X ea ta aa) : DE X (.UnaryOp .Not ea pos) (tNotV ta) (aNotV aa) := ⟨pe_not h.pe, sim_notV h.sm⟩
theorem d_if (h : DT X ec t at1) (ha : DE X ea ta aa) (hb : DE X eb tb ab) : DE X (.IfExp ec ea eb pos) (tIf t ta tb) (aIf at1 aa ab) := ⟨pe_ifExp h.pe ha.pe hb.pe, sim_if h.sm ha.sm hb.sm⟩
theorem da_nil : DA X [] tNil aNil := ⟨pa_nil, sim_nil⟩
theorem da_cons {tr : TA} {ar : AA} (ha : DE X ea ta aa) (hr : DA X es tr ar) (hs : starEach (ea :: es) X.env = (false, eval ea X.env) :: starEach es X.env := by rfl) : DA X (ea :: es) (tCons ta tr) (aCons aa ar) := ⟨pa_cons ha.pe hr.pe hs, sim_cons ha.sm hr.sm⟩
theorem d_tup {x1} {tr : TA} {ar : AA} (h : DA X es tr ar) : DE X (.Tuple es x1 pos) (tTup tr) (aTup ar) := ⟨pe_tup h.pe, sim_tup h.sm⟩
theorem d_lst {tr : TA} {ar : AA} (h : DA X es tr ar) : DE X (.List es pos) (tLst tr) (aLst ar) := ⟨pe_lst h.pe, sim_lst h.sm⟩
theorem d_ix {K : PySem.W.Frag} (hK : X.K = K := by rfl) (ha : DE X ea ta aa) (hb : DE X eb tb ab) (hs : PlainIx eb := by exact fun _ _ => rfl) : DE X (.Subscript ea eb pos) (tOp (rIx K) ta tb) (aOp aIx aa ab) := by
  subst hK
  exact ⟨pe_ix ix_seq ha.pe hb.pe hs, sim_op rd_ix ha.sm hb.sm⟩
theorem d_ixO {K : PySem.W.Frag} (hK : X.K = K := by rfl) {i : Nat} (ha : DE X ea (tVar i) (aVar i)) (hb : DE X eb tb ab) (hs : PlainIx eb := by exact fun _ _ => rfl) : DE X (.Subscript ea eb pos) (tOp (rIx K) (tVar i) tb) (aIxO i ab) := by
  subst hK
  exact ⟨pe_ix ix_seq ha.pe hb.pe hs, sim_ixO hb.sm⟩
theorem do_no : DO X none tNoPart aNoP := ⟨po_none, simo_no⟩
theorem do_so (h : DE X ea ta aa) : DO X (some ea) (tPart ta) (aPart aa) := ⟨po_some h.pe, simo_part h.sm⟩
theorem d_slL {K : PySem.W.Frag} (hK : X.K = K := by rfl) {lo hi : Option Expr} {tl th : TO} {al ah : AO} {p2 : Pos} (he : DE X ea ta aa) (hl : DO X lo tl al) (hu : DO X hi th ah) : DE X (.Subscript ea (.Slice lo hi none p2) pos) (tSl (rSlL K) ta tl th) (aSlL aa al ah) := by
  subst hK
  exact ⟨pe_slice sl_list he.pe hl.pe hu.pe, sim_slL he.sm hl.sm hu.sm⟩
theorem d_slT {K : PySem.W.Frag} (hK : X.K = K := by rfl) {lo hi : Option Expr} {tl th : TO} {al ah : AO} {p2 : Pos} (he : DE X ea ta aa) (hl : DO X lo tl al) (hu : DO X hi th ah) : DE X (.Subscript ea (.Slice lo hi none p2) pos) (tSl (rSlA K) ta tl th) (aSlT aa al ah) := by
  subst hK
  exact ⟨pe_slice sl_tupA he.pe hl.pe hu.pe, sim_slT he.sm hl.sm hu.sm⟩
/-! calls -/
theorem d_cb {K : PySem.W.Frag} (hK : X.K = K := by rfl) {x : Str} {id : String} {r : List V → Hp → VK → Prop} {ar : ARC} {tr : TA} {aar : AA} (hr : RC K r ar) (hc : CallR X (.builtin id) r) (hm : X.mg x = none) (hv : bootBuiltins x = some (.builtin id)) (ha : DA X (e :: es) tr aar) (hg : Gl X x := by rfl) (hn : x ≠ "__name__" := by decide) (hdb : (x == ("__debug__" : Str)) = false := by decide)
    (he : starEach (e :: es) X.env = (false, eval e X.env) :: starEach es X.env := by rfl) (hpl : (backTo pos (starEach es X.env)).any (·.1) = false := by rfl) : DE X (.Call (.Name x p) (e :: es) [] pos) (tCB r tr) (aCall ar aar) := by
  subst hK
  exact ⟨pe_callB hc hg hm hv ha.pe hn hdb he hpl, sim_cb hr ha.sm⟩
theorem d_ct {K : PySem.W.Frag} (hK : X.K = K := by rfl) {x : Str} {T : String} {r : List V → Hp → VK → Prop} {ar : ARC} {tr : TA} {aar : AA} (hr : RC K r ar) (hc : CallR X (.type T) r) (hm : X.mg x = none) (hv : bootBuiltins x = some (.type T)) (ha : DA X (e :: es) tr aar) (hg : Gl X x := by rfl) (hn : x ≠ "__name__" := by decide) (hdb : (x == ("__debug__" : Str)) = false := by decide)
    (he : starEach (e :: es) X.env = (false, eval e X.env) :: starEach es X.env := by rfl) (hpl : (backTo pos (starEach es X.env)).any (·.1) = false := by rfl) : DE X (.Call (.Name x p) (e :: es) [] pos) (tCB r tr) (aCall ar aar) := by
  subst hK
  exact ⟨pe_callTy hc hg hm hv ha.pe hn hdb he hpl, sim_cb hr ha.sm⟩
def absI (i : Int) : Int := if i < 0 then -i else i
def maxI (i j : Int) : Int := if j > i then j else i
def minI (i j : Int) : Int := if j < i then j else i
theorem cr_abs : CallR X (.builtin "abs") (rI1 absI) := call_abs
theorem cr_max2 (hc : X.calm = true) : CallR X (.builtin "max") (rI2 maxI) := call_max2 hc
theorem cr_min2 (hc : X.calm = true) : CallR X (.builtin "min") (rI2 minI) := call_min2 hc
theorem d_isi {K : PySem.W.Frag} (hK : X.K = K := by rfl) {T : TyN} {x y : Str} {p2 : Pos} (ha : DE X ea ta aa) (hm : X.mg x = none) (hv : bootBuiltins x = some (.builtin "isinstance")) (hmT : X.mg y = none) (hvT : bootBuiltins y = some (.type T.nm)) (hg : Gl X x := by rfl) (hgT : Gl X y := by rfl)
    (hn : x ≠ "__name__" := by decide) (hdb : (x == ("__debug__" : Str)) = false := by decide) (hnT : y ≠ "__name__" := by decide) (hdbT : (y == ("__debug__" : Str)) = false := by decide)
    (he : starEach (ea :: [.Name y p2]) X.env = (false, eval ea X.env) :: starEach [.Name y p2] X.env := by rfl) (he2 : starEach [.Name y p2] X.env = (false, eval (.Name y p2) X.env) :: starEach [] X.env := by rfl) (hpl : (backTo pos (starEach [.Name y p2] X.env)).any (·.1) = false := by rfl) :
    DE X (.Call (.Name x p) [ea, .Name y p2] [] pos) (tCB (rIsi K) (tCons ta (tCons (tC (.ty T.nm)) tNil))) (aIsi T aa) := by
  subst hK
  exact ⟨pe_callB call_isi hg hm hv (pa_cons ha.pe (pa_cons (pe_bltn hgT hmT hvT rfl hnT hdbT) pa_nil he2) he) hn hdb he hpl, sim_isi ha.sm⟩
/-- own defs -/
theorem d_call {K : PySem.W.Frag} (hK : X.K = K := by rfl) {x : Str} {f : Addr} {fd : FuncData} {ps : List Str} {k n : Nat} {S : ARC} {tr : TA} {aar : AA} (F : GnOk X.prog X.w K X.mg X.base CX0 k f fd ps (spD K n S)) (hgd : X.A.guards = some []) (hr : Room k X.A) (hm : X.mg x = some (.ref f)) (hk : PySem.W.keepIn K (.ref f) = true) (hb : Binds K fd ps [])
    (ha : DA X (e :: es) tr aar) (hg : Gl X x := by rfl) (hdb : (x == ("__debug__" : Str)) = false := by decide) (he : starEach (e :: es) X.env = (false, eval e X.env) :: starEach es X.env := by rfl) (hpl : (backTo pos (starEach es X.env)).any (·.1) = false := by rfl) :
    DE X (.Call (.Name x p) (e :: es) [] pos) (tCall (spD K n S) [] E0 tr) (aCall (aFn n S) aar) := by
  subst hK
  exact ⟨pe_g F hgd hr hg hm hk hb pass0 ha.pe hdb he hpl, sim_call ha.sm⟩
theorem d_callM {K : PySem.W.Frag} (hK : X.K = K := by rfl) {x y : Str} {f : Addr} {fd : FuncData} {ps : List Str} {k n j : Nat} {S : ARM} {tr : TA} {aar : AA} {p2 : Pos} (F : GnOk X.prog X.w K X.mg X.base CX0 k f fd ps (spM K n S)) (hgd : X.A.guards = some []) (hr : Room k X.A) (hm : X.mg x = some (.ref f)) (hk : PySem.W.keepIn K (.ref f) = true) (hb : Binds K fd ps [])
    (hv : DE X (.Name y p2) (tVar j) (aVar j)) (ha : DA X es tr aar) (hg : Gl X x := by rfl) (hdb : (x == ("__debug__" : Str)) = false := by decide) (he : starEach (.Name y p2 :: es) X.env = (false, eval (.Name y p2) X.env) :: starEach es X.env := by rfl) (hpl : (backTo pos (starEach es X.env)).any (·.1) = false := by rfl) :
    DE X (.Call (.Name x p) (.Name y p2 :: es) [] pos) (tCall (spM K n S) [] E0 (tCons (tVar j) tr)) (aCallM n j S aar) := by
  subst hK
  exact ⟨pe_g F hgd hr hg hm hk hb pass0 (pa_cons hv.pe ha.pe he) hdb he hpl, sim_callM ha.sm⟩
/-! what is walked, comprehensions -/
section
variable {tg : Expr}
theorem di_list {K : PySem.W.Frag} (hK : X.K = K := by rfl) (h : DE X ea ta aa) : DI X tg ea (iList K ta) (aItL aa) := by
  subst hK
  exact ⟨pi_list h.pe, simi_list h.sm⟩
theorem di_tup {K : PySem.W.Frag} (hK : X.K = K := by rfl) (h : DE X ea ta aa) : DI X tg ea (iTup K ta) (aItT aa) := by
  subst hK
  exact ⟨pi_tup h.pe, simi_tup h.sm⟩
theorem di_rng1 {tr : TA} {ar : AA} (hm : X.mg "range" = none) (ha : DA X [ea] tr ar) (hg : Gl X "range" := by rfl) (hs : starEach [ea] X.env = [(false, eval ea X.env)] := by rfl) : DI X tg (.Call (.Name "range" p) [ea] [] pos) (iRng1 tr) (aRng1 ar) := ⟨pi_range1 hg hm ha.pe hs, simi_rng1 ha.sm⟩
theorem di_rng2 {tr : TA} {ar : AA} (hm : X.mg "range" = none) (ha : DA X [ea, eb] tr ar) (hg : Gl X "range" := by rfl) (hs : starEach [ea, eb] X.env = [(false, eval ea X.env), (false, eval eb X.env)] := by rfl) (hs2 : starEach [eb] X.env = [(false, eval eb X.env)] := by rfl) :
    DI X tg (.Call (.Name "range" p) [ea, eb] [] pos) (iRng2 tr) (aRng2 ar) := ⟨pi_range2 hg hm ha.pe hs hs2, simi_rng2 ha.sm⟩
end
theorem dg_name {i : Nat} {x : Str} (hN : X.N.Nodup) (hi : X.N[i]? = some x := by rfl) (hx : Loc X.env.scope x := by first | exact Or.inl rfl | exact Or.inr rfl) (hf : X.fn x = true ∨ X.env.scope.names.lookup x = some .local := by first | exact .inl rfl | exact .inr rfl | assumption) : DG X (.Name x pos) (gName i) (agName i) [i] :=
  ⟨pg_name hN hi hx hf, simg_name, fun d s P h => ⟨_, h⟩⟩
theorem dgs_nil : DGs X [] gNil agNil [] 0 := ⟨pgs_nil, simgs_nil, fun ds s P h => ⟨by rw [h.1] <;> rfl, s, h.2⟩⟩
theorem dgs_cons {g : TG} {ag : AG} {L M : List Nat} {n : Nat} {gs : TGs} {ags : AGs} (h1 : DG X ea g ag L) (h2 : DGs X es gs ags M n) (hs : (assignEach (ea :: es) X.env).map (·.2) = assign ea X.env :: (assignEach es X.env).map (·.2) := by rfl) : DGs X (ea :: es) (gCons g gs) (agCons ag ags) (L ++ M) (n + 1) := by
  refine ⟨pgs_cons h1.pe h2.pe hs, simgs_cons h1.sm h2.sm, fun ds s P h => ?_⟩
  cases ds with
  | nil => exact h.elim
  | cons d ds =>
    obtain ⟨s1, h3⟩ := h1.ex _ _ _ h
    obtain ⟨h4, s2, h5⟩ := h2.ex _ _ _ h3
    exact ⟨by rw [List.length_cons, h4], s2, h5⟩
theorem dg_tup {K : PySem.W.Frag} (hK : X.K = K := by rfl) {k n : Nat} {L : List Nat} {gs : TGs} {ags : AGs} (hc : X.calm = true) (h : DGs X es gs ags L n) (hn : (assignEach es X.env).length = n := by rfl) (hst : (assignEach es X.env).findIdx? (·.1) = none := by rfl) : DG X (.Tuple es k pos) (gTup K n gs) (agTup ags) L := by
  subst hK
  refine ⟨pg_tup hc h.pe hn hst, simg_tup h.sm fun ds s P q => (h.ex ds s P q).1, fun d s P q => ?_⟩
  cases d <;> first | exact q.elim | skip
  exact (h.ex _ s P q).2
/-! comprehensions -/
theorem d_lc {elt tg iter : Expr} {scope : Scope} {own : List (Str × Nat)} {wi : TI} {ai : AI} {g : TG} {ag : AG} {L : List Nat} (hc : X.calm = true) (hN : X.N.Nodup) (hi : DI X tg iter wi ai) (ok : BlkOk X.N X.env.scope scope own) (hL : ∀ j, j ∈ L → j ∈ own.map (·.2))
    (hg : ∀ (s : Shared) (H : Hp) (C : Addr) (cl : List (Str × Addr)) (fp : List Addr), DG (X.blk s H scope (compEnvC scope cl C X.env) fp) tg g ag L)
    (he : ∀ (s : Shared) (H : Hp) (C : Addr) (cl : List (Str × Addr)) (fp : List Addr), DE (X.blk s H scope (compEnvC scope cl C X.env) fp) elt te aa) (hs : ∀ x, foldedSetIterable iter X.env x = pure x := by intro _; rfl) :
    DE X (.ListComp elt [⟨tg, iter, [], 0⟩] scope pos) (tLc wi g tYes te (own.map (·.2))) (aLc ai ag aYes aa (own.map (·.2))) :=
  ⟨pe_lc hc hN hi.pe ok (fun s H C cl fp => (hg s H C cl fp).pe) (fun _ _ _ _ _ => pts_nil) (fun s H C cl fp => (he s H C cl fp).pe) hs,
    sim_lc hi.sm (hg ⟨X.base, X.s_0.gens, X.s_0.drawn, X.s_0.toks, X.s_0.os⟩ X.H_0 0 [] []).sm hL simt_yes (he ⟨X.base, X.s_0.gens, X.s_0.drawn, X.s_0.toks, X.s_0.os⟩ X.H_0 0 [] []).sm⟩
theorem d_lcI {elt tg iter cnd : Expr} {scope : Scope} {own : List (Str × Nat)} {wi : TI} {ai : AI} {g : TG} {ag : AG} {L : List Nat} (hc : X.calm = true) (hN : X.N.Nodup) (hi : DI X tg iter wi ai) (ok : BlkOk X.N X.env.scope scope own) (hL : ∀ j, j ∈ L → j ∈ own.map (·.2))
    (hg : ∀ (s : Shared) (H : Hp) (C : Addr) (cl : List (Str × Addr)) (fp : List Addr), DG (X.blk s H scope (compEnvC scope cl C X.env) fp) tg g ag L)
    (ht : ∀ (s : Shared) (H : Hp) (C : Addr) (cl : List (Str × Addr)) (fp : List Addr), DT (X.blk s H scope (compEnvC scope cl C X.env) fp) cnd t at1)
    (he : ∀ (s : Shared) (H : Hp) (C : Addr) (cl : List (Str × Addr)) (fp : List Addr), DE (X.blk s H scope (compEnvC scope cl C X.env) fp) elt te aa) (hs : ∀ x, foldedSetIterable iter X.env x = pure x := by intro _; rfl) :
    DE X (.ListComp elt [⟨tg, iter, [cnd], 0⟩] scope pos) (tLc wi g t te (own.map (·.2))) (aLc ai ag at1 aa (own.map (·.2))) :=
  ⟨pe_lc hc hN hi.pe ok (fun s H C cl fp => (hg s H C cl fp).pe) (fun s H C cl fp => pts_one (ht s H C cl fp).pe) (fun s H C cl fp => (he s H C cl fp).pe) hs,
    sim_lc hi.sm (hg ⟨X.base, X.s_0.gens, X.s_0.drawn, X.s_0.toks, X.s_0.os⟩ X.H_0 0 [] []).sm hL (ht ⟨X.base, X.s_0.gens, X.s_0.drawn, X.s_0.toks, X.s_0.os⟩ X.H_0 0 [] []).sm (he ⟨X.base, X.s_0.gens, X.s_0.drawn, X.s_0.toks, X.s_0.os⟩ X.H_0 0 [] []).sm⟩
/-- y = [..] -/
theorem s_lc {i : Nat} {y : Str} {py spos : Pos} {elt tg iter : Expr} {scope : Scope} {own : List (Str × Nat)} {wi : TI} {ai : AI} {g : TG} {ag : AG} {L : List Nat} (hc : X.calm = true) (hN : X.N.Nodup) (hi : DI X tg iter wi ai) (ok : BlkOk X.N X.env.scope scope own) (hL : ∀ j, j ∈ L → j ∈ own.map (·.2))
    (hg : ∀ (s : Shared) (H : Hp) (C : Addr) (cl : List (Str × Addr)) (fp : List Addr), DG (X.blk s H scope (compEnvC scope cl C X.env) fp) tg g ag L)
    (he : ∀ (s : Shared) (H : Hp) (C : Addr) (cl : List (Str × Addr)) (fp : List Addr), DE (X.blk s H scope (compEnvC scope cl C X.env) fp) elt te aa)
    (hsw : swapsWith (.ListComp elt [⟨tg, iter, [], 0⟩] scope pos) (some (.Name y py)) spos.line X.env = pure true) (hy : X.N[i]? = some y := by rfl) (hyl : X.env.scope.names.lookup y = some .local := by rfl) (hs : ∀ x, foldedSetIterable iter X.env x = pure x := by intro _; rfl) :
    DS X (.Assign [.Name y py] (.ListComp elt [⟨tg, iter, [], 0⟩] scope pos) spos) (tAsg (tLc wi g tYes te (own.map (·.2))) (gName i)) (aSet i (aLc ai ag aYes aa (own.map (·.2)))) :=
  ⟨ps_setLc hc hN hy hyl hsw hi.pe ok (fun s H C cl fp => (hg s H C cl fp).pe) (fun _ _ _ _ _ => pts_nil) (fun s H C cl fp => (he s H C cl fp).pe) hs,
    sims_set (sim_lc hi.sm (hg ⟨X.base, X.s_0.gens, X.s_0.drawn, X.s_0.toks, X.s_0.os⟩ X.H_0 0 [] []).sm hL simt_yes (he ⟨X.base, X.s_0.gens, X.s_0.drawn, X.s_0.toks, X.s_0.os⟩ X.H_0 0 [] []).sm)⟩
theorem s_lcI {i : Nat} {y : Str} {py spos : Pos} {elt tg iter cnd : Expr} {scope : Scope} {own : List (Str × Nat)} {wi : TI} {ai : AI} {g : TG} {ag : AG} {L : List Nat} (hc : X.calm = true) (hN : X.N.Nodup) (hi : DI X tg iter wi ai) (ok : BlkOk X.N X.env.scope scope own) (hL : ∀ j, j ∈ L → j ∈ own.map (·.2))
    (hg : ∀ (s : Shared) (H : Hp) (C : Addr) (cl : List (Str × Addr)) (fp : List Addr), DG (X.blk s H scope (compEnvC scope cl C X.env) fp) tg g ag L)
    (ht : ∀ (s : Shared) (H : Hp) (C : Addr) (cl : List (Str × Addr)) (fp : List Addr), DT (X.blk s H scope (compEnvC scope cl C X.env) fp) cnd t at1)
    (he : ∀ (s : Shared) (H : Hp) (C : Addr) (cl : List (Str × Addr)) (fp : List Addr), DE (X.blk s H scope (compEnvC scope cl C X.env) fp) elt te aa)
    (hsw : swapsWith (.ListComp elt [⟨tg, iter, [cnd], 0⟩] scope pos) (some (.Name y py)) spos.line X.env = pure true) (hy : X.N[i]? = some y := by rfl) (hyl : X.env.scope.names.lookup y = some .local := by rfl) (hs : ∀ x, foldedSetIterable iter X.env x = pure x := by intro _; rfl) :
    DS X (.Assign [.Name y py] (.ListComp elt [⟨tg, iter, [cnd], 0⟩] scope pos) spos) (tAsg (tLc wi g t te (own.map (·.2))) (gName i)) (aSet i (aLc ai ag at1 aa (own.map (·.2)))) :=
  ⟨ps_setLc hc hN hy hyl hsw hi.pe ok (fun s H C cl fp => (hg s H C cl fp).pe) (fun s H C cl fp => pts_one (ht s H C cl fp).pe) (fun s H C cl fp => (he s H C cl fp).pe) hs,
    sims_set (sim_lc hi.sm (hg ⟨X.base, X.s_0.gens, X.s_0.drawn, X.s_0.toks, X.s_0.os⟩ X.H_0 0 [] []).sm hL (ht ⟨X.base, X.s_0.gens, X.s_0.drawn, X.s_0.toks, X.s_0.os⟩ X.H_0 0 [] []).sm (he ⟨X.base, X.s_0.gens, X.s_0.drawn, X.s_0.toks, X.s_0.os⟩ X.H_0 0 [] []).sm)⟩
/-! statements -/
variable {st : Stmt} {sts : List Stmt}
theorem s_set {i : Nat} {x : Str} {pos' : Pos} (hN : X.N.Nodup) (he : DE X ea ta aa) (hi : X.N[i]? = some x := by rfl) (hx : Loc X.env.scope x := by first | exact Or.inl rfl | exact Or.inr rfl) (hs : swapsWith ea (some (.Name x pos')) pos.line X.env = pure false := by rfl)
    (hf : X.fn x = true ∨ X.env.scope.names.lookup x = some .local := by first | exact .inl rfl | exact .inr rfl | assumption) : DS X (.Assign [.Name x pos'] ea pos) (tAsg ta (gName i)) (aSet i aa) := ⟨ps_set hN hi hx he.pe hs hf, sims_set he.sm⟩
theorem s_asg {tg : Expr} {g : TG} {ag : AG} {L : List Nat} (he : DE X ea ta aa) (hg : DG X tg g ag L) (hs : swapsWithSole [tg] ea pos.line X.env = pure false := by rfl) (hw : swappedStores [tg] ea X.env = pure none := by rfl)
    (h1 : (assignEach [tg] X.env).map (·.2) = [assign tg X.env] := by rfl) : DS X (.Assign [tg] ea pos) (tAsg ta g) (aAsg aa ag) := ⟨ps_asg he.pe hg.pe hs hw h1, sims_asg he.sm hg.sm⟩
/-- x, y = e, f -/
def aPar (i j : Nat) (a b : AE) : AS := fun A s => a s fun r1 s1 => b s1 fun r2 s2 => A.nx ((s2.set i r1).set j r2)
theorem Step.put2 {K : PySem.W.Frag} {F H F1 H1 : Hp} {s s1 : Ss} {σ : L2.St} {r1 r2 : Sl} {v w : V} {i j : Nat} (st : Step K s F H s1 F1 H1 σ) (q1 : Rs K s H F1 H1 s1 r1 v) (q2 : Rs K s H F1 H1 s1 r2 w) (hne : ∀ p xs ys, r1 = .ow p xs → r2 = .ow p ys → False) :
    Step K s F H ((s1.set i r1).set j r2) F1 H1 ((σ.set i (some v)).set j (some w)) := by
  refine (st.put q1).put ⟨q2.ok, fun p xs e => ⟨(q2.fr p xs e).1, fun z => ?_⟩⟩
  rcases own_set z with y | ⟨ys, y⟩
  · exact (q2.fr p xs e).2 y
  · exact hne p ys xs y e
theorem s_par {i j : Nat} {x y : Str} {px py pt : Pos} {kt k2 : Nat} {pt2 : Pos} (hc : X.calm = true) (hN : X.N.Nodup) (ha : DE X ea ta aa) (hb : DE X eb tb ab) (hij : i ≠ j)
    (hw : swappedStores [.Tuple [.Name x px, .Name y py] kt pt] (.Tuple [ea, eb] k2 pt2) X.env = pure (some [x, y])) (hi : X.N[i]? = some x := by rfl) (hj : X.N[j]? = some y := by rfl)
    (hx : X.env.scope.names.lookup x = some .local := by rfl) (hy : X.env.scope.names.lookup y = some .local := by rfl)
    (hs : swapsWithSole [.Tuple [.Name x px, .Name y py] kt pt] (.Tuple [ea, eb] k2 pt2) pos.line X.env = pure false := by rfl)
    (he : starEach (ea :: [eb]) X.env = (false, eval ea X.env) :: starEach [eb] X.env := by rfl) (he2 : starEach [eb] X.env = (false, eval eb X.env) :: starEach [] X.env := by rfl) :
    DS X (.Assign [.Tuple [.Name x px, .Name y py] kt pt] (.Tuple [ea, eb] k2 pt2) pos) (tPar i j (tCons ta (tCons tb tNil))) (aPar i j aa ab) :=
  ⟨ps_par hc hN hi hj hij hx hy (pa_cons ha.pe (pa_cons hb.pe pa_nil he2) he) hw hs, fun A s q σ F H ok E kn kr kb kc => by
    refine ha.sm s _ q σ F H ok _ fun r1 s1 v1 F1 H1 q1 st1 rs1 => ?_
    refine hb.sm s1 _ q1 σ F1 H1 st1.st _ fun r2 s2 v2 F2 H2 q2 st2 rs2 => ?_
    refine ⟨v1, v2, rfl, kn _ _ F2 H2 q2 ((st1.trans st2).put2 (rs1.keep st2) (rs2.more st1) fun p xs ys e1 e2 => ?_)⟩
    obtain ⟨g1, g2⟩ := rs1.fr p xs e1
    obtain ⟨g3, g4⟩ := rs2.fr p ys e2
    rcases g3 with z | z
    · have h := rs1.ok
      rw [e1] at h
      obtain ⟨_, _, us, h3, _⟩ := h
      rw [h3] at z
      cases z
    · exact g2 z⟩
theorem s_augA {i : Nat} {x : Str} {pos' : Pos} (hN : X.N.Nodup) (he : DE X ea ta aa) (hi : X.N[i]? = some x := by rfl) (hx : Loc X.env.scope x := by first | exact Or.inl rfl | exact Or.inr rfl) (hf : X.fn x = true ∨ X.env.scope.names.lookup x = some .local := by first | exact .inl rfl | exact .inr rfl | assumption) :
    DS X (.AugAssign (.Name x pos') .Add ea pos) (tAug i ta (ipI fun i j => i + j)) (aAug i (fun i j => i + j) aa) := ⟨ps_aug hN hi hx he.pe ip_add hf, sims_aug he.sm⟩
theorem s_augS {i : Nat} {x : Str} {pos' : Pos} (hN : X.N.Nodup) (he : DE X ea ta aa) (hi : X.N[i]? = some x := by rfl) (hx : Loc X.env.scope x := by first | exact Or.inl rfl | exact Or.inr rfl) (hf : X.fn x = true ∨ X.env.scope.names.lookup x = some .local := by first | exact .inl rfl | exact .inr rfl | assumption) :
    DS X (.AugAssign (.Name x pos') .Sub ea pos) (tAug i ta (ipI fun i j => i - j)) (aAug i (fun i j => i - j) aa) := ⟨ps_aug hN hi hx he.pe ip_sub hf, sims_aug he.sm⟩
theorem s_app {i : Nat} {x : Str} {p2 apos cpos : Pos} (he : DE X ea ta aa) (hv : DE X (.Name x p2) (tVar i) (aVar i)) (hbase : attributeBase (.Name x p2) "append" X.env (eval (.Name x p2) X.env) = eval (.Name x p2) X.env := by rfl)
    (hfew : ((backTo cpos (starEach (ea :: []) X.env)).all (fun x => !x.1) && (backToKw cpos (keywordEach [] X.env)).all (fun x => x.1.isSome) && decide ((ea :: []).length + ([] : List Keyword).length + (if ([] : List Keyword).isEmpty then 0 else 1) < 30)) = true := by rfl)
    (hline : (apos.endLine == cpos.line) = true := by rfl) (hs : starEach (ea :: []) X.env = (false, eval ea X.env) :: starEach [] X.env := by rfl) (hplain : (backTo cpos (starEach [] X.env)).any (·.1) = false := by rfl)
    (hsw : swapsWith (.Call (.Attribute (.Name x p2) "append" apos) [ea] [] cpos) none pos.line X.env = pure false := by rfl) : DS X (.Expr (.Call (.Attribute (.Name x p2) "append" apos) [ea] [] cpos) pos) (tDrop (tBM X.K "list" rAppend (tVar i) (tCons ta tNil))) (aApp i aa) :=
  ⟨ps_expr (pe_bm PySem.F.plainAttrs_list PySem.F.slot_list_append PySem.F.type_list_append mt_append hv.pe (pa_cons he.pe pa_nil hs) hbase hfew hline hs hplain) hsw, sims_app he.sm⟩
theorem s_put {i : Nat} {x : Str} {p2 spos : Pos} (he : DE X ea ta aa) (hv : DE X (.Name x p2) (tVar i) (aVar i)) (hk : DE X eb tb ab)
    (ha : ∀ v, assign (.Subscript (.Name x p2) eb spos) X.env v = (do
      let ov ← holding [v] (eval (.Name x p2) X.env)
      let iv ← holding [v, ov] (eval eb X.env)
      standAt spos
      holding [v, ov, iv] (setItem ov iv v)
      release [v, ov, iv] []) := by intro _; rfl) (hs : swapsWithSole [.Subscript (.Name x p2) eb spos] ea pos.line X.env = pure false := by rfl) (hw : swappedStores [.Subscript (.Name x p2) eb spos] ea X.env = pure none := by rfl)
    (h1 : (assignEach [.Subscript (.Name x p2) eb spos] X.env).map (·.2) = [assign (.Subscript (.Name x p2) eb spos) X.env] := by rfl) :
    DS X (.Assign [.Subscript (.Name x p2) eb spos] ea pos) (tAsg ta (gSub (tVar i) tb rSetL)) (aPut i aa ab) := ⟨ps_asg he.pe (pg_sub hv.pe hk.pe set_list ha) hs hw h1, sims_put he.sm hk.sm⟩
theorem s_expr (he : DE X ea ta aa) (hs : swapsWith ea none pos.line X.env = pure false := by rfl) : DS X (.Expr ea pos) (tDrop ta) (aDrop aa) := ⟨ps_expr he.pe hs, sims_drop he.sm⟩
theorem s_ret (he : DE X ea ta aa) : DS X (.Return (some ea) pos) (tRet ta) (aRet aa) := ⟨ps_ret he.pe, sims_ret he.sm⟩
theorem s_retN : DS X (.Return none pos) tRetN aRetN := ⟨ps_retN, sims_retN⟩
theorem s_if {b1 b2 : List Stmt} (hc : DT X ec t at1) (h1 : DSs X b1 ts as) (h2 : DSs X b2 tu aus) : DS X (.If ec b1 b2 pos) (tIfS t ts tu) (aIfS at1 as aus) := ⟨ps_if hc.pe h1.pe h2.pe, sims_if hc.sm h1.sm h2.sm⟩
theorem s_pass : DS X (.Pass pos) tNext aNext := ⟨ps_pass, sims_next⟩
theorem s_brk : DS X (.Break pos) tBreak aBrk := ⟨ps_break, sims_brk⟩
theorem s_cnt : DS X (.Continue pos) tCont aCnt := ⟨ps_continue, sims_cnt⟩
theorem s_nev : DS X st tNever aNev := ⟨ps_never, sims_nev⟩
theorem s_for {tg iter : Expr} {body : List Stmt} {wi : TI} {ai : AI} {g : TG} {ag : AG} {L : List Nat} (hp : PassesOwn (model X.prog X.w) X.A X.env X.xe) (hc : X.calm = true) (hi : DI X tg iter wi ai) (hg : DG X tg g ag L) (hb : DSs X body ts as)
    (hs : ∀ x, foldedSetIterable iter X.env x = pure x := by intro _; rfl) : DS X (.For tg iter body [] pos) (tFor wi g ts) (aFor ai ag as) := ⟨ps_for hp hc hi.pe hg.pe hb.pe hs, sims_for hi.sm hg.sm hb.sm⟩
theorem s_while {body : List Stmt} (hp : PassesOwn (model X.prog X.w) X.A X.env X.xe) (hc : DT X ec t at1) (hb : DSs X body ts as) : DS X (.While ec body [] pos) (tWhile t ts) (aWhile at1 as) := ⟨ps_while hp hc.pe hb.pe, sims_while hc.sm hb.sm⟩
theorem ss_nil : DSs X [] tNext aNext := ⟨pss_nil, sims_next⟩
theorem ss_one (h : DS X st ts as) : DSs X [st] ts as := ⟨pss_one h.pe, h.sm⟩
theorem ss_cons (h : DS X st ts as) (h2 : DSs X sts tu aus) : DSs X (st :: sts) (tSeq ts tu) (aSeq as aus) := ⟨pss_cons h.pe h2.pe, sims_seq h.sm h2.sm⟩
end
section
variable {P : Program} {w : World} {K : PySem.W.Frag} {mg : Str → Option Value} {base : Heap}
theorem fnD {x qual : Str} {st : Stmt} {f : Addr} {fd : FuncData} {N ps : List Str} {k n : Nat} {S : ARC} {as : AS} (Fn : Fun K x qual st f fd) (Sc : FnScope N ps (defScope st)) (hn : ps.length = n)
    (hS : ∀ ds Q, ds.length = n → S ds Q → as (endsD Q) (startS N.length (ds.map .pu)))
    (hbody : ∀ (cdv : Value) (A : Around) (outer : List Env) (s : Shared) (H : Hp) (E : XK), (A.deeper (PyProof.Rows.envOfC qual (defScope st) s.heap.objs.size f cdv)).guards = some [] → Room k (A.deeper (PyProof.Rows.envOfC qual (defScope st) s.heap.objs.size f cdv)) → ∃ ts, DSs (cxOf CX0 P w K mg base N qual (defScope st) f cdv A outer s H E).nox (defBody st) ts as) :
    GnOk P w K mg base CX0 (k + 1) f fd ps (spD K n S) := okD Fn Sc hn fun cdv A outer s H E hg hr => by
  obtain ⟨ts, h⟩ := hbody cdv A outer s H E hg hr
  exact ⟨ts, as, h.pe, h.sm, hS⟩
theorem fnM {x qual : Str} {st : Stmt} {f : Addr} {fd : FuncData} {N ps : List Str} {k n : Nat} {S : ARM} {as : AS} (Fn : Fun K x qual st f fd) (Sc : FnScope N ps (defScope st)) (hn : ps.length = n)
    (hS : ∀ xs ds Q p, ds.length + 1 = n → S xs ds Q → as (endsM Q p) (startS N.length (.ow p xs :: ds.map .pu)))
    (hbody : ∀ (cdv : Value) (A : Around) (outer : List Env) (s : Shared) (H : Hp) (E : XK), (A.deeper (PyProof.Rows.envOfC qual (defScope st) s.heap.objs.size f cdv)).guards = some [] → Room k (A.deeper (PyProof.Rows.envOfC qual (defScope st) s.heap.objs.size f cdv)) → ∃ ts, DSs (cxOf CX0 P w K mg base N qual (defScope st) f cdv A outer s H E).nox (defBody st) ts as) :
    GnOk P w K mg base CX0 (k + 1) f fd ps (spM K n S) := okM Fn Sc hn fun cdv A outer s H E hg hr => by
  obtain ⟨ts, h⟩ := hbody cdv A outer s H E hg hr
  exact ⟨ts, as, h.pe, h.sm, hS⟩
end
end DL

namespace DL
open PySem L2

abbrev aAdd (a b : AE) : AE := aOp (aI fun i j => i + j) a b
abbrev aSub (a b : AE) : AE := aOp (aI fun i j => i - j) a b
abbrev aMul (a b : AE) : AE := aOp (aIC CMul fun i j => i * j) a b
abbrev aMulW (a b : AE) : AE := aOp (aIC CMulW fun i j => i * j) a b
abbrev aDiv (a b : AE) : AE := aOp (aIC CDiv fun i j => i / j) a b
abbrev aDivW (a b : AE) : AE := aOp (aIC CDivW fun i j => i / j) a b
abbrev aMod (a b : AE) : AE := aOp (aIC (fun _ j => 0 < j) fun i j => i % j) a b
abbrev aPow (a b : AE) : AE := aOp (aIC CPow fun i j => i ^ j.toNat) a b
abbrev aLt : AR2 := aB fun i j => decide (i < j)
abbrev aLe : AR2 := aB fun i j => decide (i ≤ j)
abbrev aGt : AR2 := aB fun i j => decide (j < i)
abbrev aGe : AR2 := aB fun i j => decide (j ≤ i)
/-- powers of great numbers -/
def CPowW (i j : Int) : Prop := 0 ≤ j ∧ (Builtin.Int.intBits i : Int) * j ≤ 2 ^ 27
theorem op_powW {X : Cx} : OpR X (binaryOp .Pow) (rI CPowW fun i j => .int (i ^ j.toNat)) := opI fun _ _ _ _ _ _ _ hc q => PyProof.Rows.pow_int hc.1 hc.2 q
abbrev aPowW (a b : AE) : AE := aOp (aIC CPowW fun i j => i ^ j.toNat) a b
theorem d_powW {X : Cx} {ea eb : Expr} {ta tb : TE} {aa ab : AE} {pos : Pos} (ha : DE X ea ta aa) (hb : DE X eb tb ab) : DE X (.BinOp ea .Pow eb pos) (tOp (rI CPowW fun i j => .int (i ^ j.toNat)) ta tb) (aPowW aa ab) := d_op op_powW rd_ic ha hb
/-- list(range(..)) -/
def aListRange1 (a : AA) : AE := fun s P => a s fun ds s1 => match ds with
  | [.int j] => (0 ≤ j ∧ j ≤ 16777216) ∧ ∀ p, P (.ow p (rngD 0 j.toNat)) s1
  | _ => False
def aListRange2 (a : AA) : AE := fun s P => a s fun ds s1 => match ds with
  | [.int i, .int j] => RgOk i j ∧ ∀ p, P (.ow p (rngD i (j - i).toNat)) s1
  | _ => False
theorem dqa_rng {K : PySem.W.Frag} {F : Hp} (a b : Int) : DqA K F (rngD a (b - a).toNat) (rgV a b) := by
  unfold rngD rgV
  generalize (List.range (b - a).toNat) = l
  induction l with
  | nil => rfl
  | cons x l ih => exact ⟨_, _, rfl, rfl, ih⟩
theorem d_list_range1 {X : Cx} {ea : Expr} {ta : TE} {aa : AE} {p p2 pos pos2 : Pos} (hm : X.mg "list" = none) (hm2 : X.mg "range" = none) (hc : X.calm = true) (ha : DE X ea ta aa) (hg : Gl X "list" := by rfl) (hg2 : Gl X "range" := by rfl) (n1 : starEach [ea] X.env = (false, eval ea X.env) :: starEach [] X.env := by rfl)
    (na : starEach [.Call (.Name "range" p) [ea] [] pos] X.env = (false, eval (.Call (.Name "range" p) [ea] [] pos) X.env) :: starEach [] X.env := by rfl) :
    DE X (.Call (.Name "list" p2) [.Call (.Name "range" p) [ea] [] pos] [] pos2) (tLstRg (tRg1 ta)) (aListRange1 (aCons aa aNil)) :=
  ⟨pe_listRg hc hg hm (prg_1 hg2 hm2 ha.pe n1) na, fun s P q σ F H ok Q k => by
    refine ha.sm.d q ok fun r s1 v F1 H1 q1 st1 d1 => ?_
    have q2 : (match [r.d] with | [.int j] => (0 ≤ j ∧ j ≤ 16777216) ∧ ∀ p, P (.ow p (rngD 0 j.toNat)) s1 | _ => False) := q1
    cases e : r.d <;> simp only [e] at q2
    rename_i j
    rw [e] at d1
    refine ⟨j, d1, RgOk.of_le (by omega) (by omega) (by omega) (by omega), fun p hp => ?_⟩
    have hd := dqa_rng (K := X.K) (F := F1) 0 j
    obtain ⟨st2, rs2⟩ := st1.leaf (Lf.newL st1.st.le hp hd)
    have q3 := q2.2 p
    rw [show j.toNat = (j - 0).toNat by omega] at q3
    exact k _ s1 _ _ _ q3 st2 rs2⟩

/-- a def that changes its first argument, called with a new list -/
def aCallT (n : Nat) (S : ARM) (a0 : AE) (ar : AA) : AE := fun s P => a0 s fun r s1 => match r with
  | .ow _ xs => ar s1 fun ds s2 => ds.length + 1 = n ∧ S xs ds fun rs _ => P rs s2
  | _ => False
theorem sim_callT {K : PySem.W.Frag} {n : Nat} {S : ARM} {te : TE} {t : TA} {a0 : AE} {a : AA} (h0 : Sim K te a0) (ha : SimA K t a) : Sim K (tCall (spM K n S) [] E0 (tCons te t)) (aCallT n S a0 a) := fun s P q σ F H ok Q k => by
  refine h0 s _ q σ F H ok _ fun r s1 v F1 H1 q1 st1 rs1 => ?_
  cases r with
  | no => exact q1.elim
  | pu d => exact q1.elim
  | ow p xs =>
    refine ha s1 _ q1 σ F1 H1 st1.st _ fun ds s2 ws F2 H2 q2 st2 d2 => ?_
    have rs2 := rs1.keep st2
    obtain ⟨z3, y1, us, y2, y3⟩ := rs2.ok
    cases z3
    obtain ⟨w1, w2⟩ := rs2.fr p xs rfl
    show spM K n S ((V.ref p :: ws) ++ []) H2 Q E0
    rw [List.append_nil]
    refine ⟨F2, p, xs, us, ds, ws, _, rfl, st2.st.le, y1, y2, y3, d2, q2.1, q2.2, fun rs xs' v F3 H3 hP l => ?_⟩
    have st12 := st1.trans st2
    have hF : ∀ b vs, F2 b = none → H2 b = some (.lst vs) → F3 b = none := fun b vs w1 w2 => by
      cases z : F3 b with
      | none => rfl
      | some o =>
        rcases l.n b (by rw [z]; intro y; cases y) with y | y
        · exact absurd w1 y
        · rw [w2] at y
          cases y
    obtain ⟨us2, m1, m2⟩ := l.m
    have stp : Step K s F H s2 F3 H3 σ := by
      refine ⟨⟨l.le, st12.st.len, fun i l2 o g1 g2 => ?_, st12.st.un⟩, st12.f.trans l.f, fun b o g1 g2 => ?_, fun b g1 => ?_, fun b g1 => ?_, st12.o⟩
      · refine (st12.st.ok i l2 o g1 g2).mono l.f fun b ys e4 vs x1 x2 => ⟨hF _ _ x1 x2, l.h b _ (fun z => ?_) x2⟩
        subst z
        exact w2 ⟨i, ys, by rw [g1, e4]⟩
      · refine l.h b o (fun z => ?_) (st12.k b o g1 g2)
        subst z
        rcases w1 with z | z
        · rw [g1] at z
          cases z
        · exact g2 z
      · by_cases z : b = p
        · subst z
          rw [m1] at g1
          cases g1
        · refine st12.t b ?_
          cases z2 : H2 b with
          | none => rfl
          | some o =>
            rw [l.h b o z z2] at g1
            cases g1
      · rcases l.n b g1 with z | z
        · exact st12.n b z
        · exact .inr (.inl (st12.t b z))
    refine k rs s2 v F3 H3 hP stp ⟨l.ok, fun q ys e3 => ?_⟩
    have z := l.fr q ys e3
    refine ⟨.inl (st12.t q z), fun w => ?_⟩
    obtain ⟨_, vs, w2⟩ := st12.st.own w
    rw [z] at w2
    cases w2
theorem d_callT {X : Cx} {K : PySem.W.Frag} (hK : X.K = K := by rfl) {x : Str} {f : Addr} {fd : FuncData} {ps : List Str} {k n : Nat} {S : ARM} {tr : TA} {aar : AA} {p pos : Pos} {ea : Expr} {es : List Expr} {ta : TE} {aa : AE} (F : GnOk X.prog X.w K X.mg X.base CX0 k f fd ps (spM K n S)) (hgd : X.A.guards = some []) (hr : Room k X.A) (hm : X.mg x = some (.ref f)) (hk : PySem.W.keepIn K (.ref f) = true) (hb : Binds K fd ps [])
    (h0 : DE X ea ta aa) (ha : DA X es tr aar) (hg : Gl X x := by rfl) (hdb : (x == ("__debug__" : Str)) = false := by decide) (he : starEach (ea :: es) X.env = (false, eval ea X.env) :: starEach es X.env := by rfl) (hpl : (backTo pos (starEach es X.env)).any (·.1) = false := by rfl) :
    DE X (.Call (.Name x p) (ea :: es) [] pos) (tCall (spM K n S) [] E0 (tCons ta tr)) (aCallT n S aa aar) := by
  subst hK
  exact ⟨pe_g F hgd hr hg hm hk hb pass0 (pa_cons h0.pe ha.pe he) hdb he hpl, sim_callT h0.sm ha.sm⟩
/-! ### the law's own end -/
def spLaw (K : PySem.W.Frag) : Sp := fun vs H Q _ => ∃ (a : Addr) (ns : List Int), vs = [.ref a] ∧ SqL K H a (ns.map V.int) ∧ ns.length ≤ 63 ∧ ∀ H', Q (.bl true) H'
def SLaw : ARC := fun ds P => ∃ ns : List Int, ds = [.scr (ns.map D.int)] ∧ ns.length ≤ 63 ∧ P (.pu (.bl true))
theorem spLaw_D {K : PySem.W.Frag} : ∀ vs H Q E, spLaw K vs H Q E → spD K 1 SLaw vs H Q E := fun vs H Q E h => by
  obtain ⟨a, ns, rfl, h1, h2, q⟩ := h
  refine ⟨H, [.scr (ns.map D.int)], fun r => r = .pu (.bl true), Same.refl _, ⟨.ref a, [], rfl, ⟨a, _, rfl, h1, dqa_ints ns⟩, rfl⟩, rfl, ⟨ns, rfl, h2, rfl⟩, fun rs v F' H' hr l => ?_⟩
  subst hr
  obtain ⟨w, e1, e2⟩ := l.ok
  cases e1
  cases (show v = _ from e2)
  exact q H'

end DL

namespace DL
open PySem L2
/-! ### lemmas for readings -/
theorem atI_k {α : Type} (xs : List α) (k : Nat) : atI xs (k : Int) = xs[k]? := by
  unfold atI ixN
  rw [if_pos (Int.natCast_nonneg k)]
  by_cases h : (k : Int) < xs.length
  · rw [if_pos h]
    rfl
  · rw [if_neg h, List.getElem?_eq_none (by omega)]
    rfl
theorem atI_k1 {α : Type} (xs : List α) (k : Nat) : atI xs ((k : Int) + 1) = xs[k + 1]? := atI_k xs (k + 1)
def rngK (k m : Nat) : List D := (List.range' k m).map fun (i : Nat) => D.int (i : Int)
theorem rngK_zero (k : Nat) : rngK k 0 = [] := rfl
theorem rngK_succ (k m : Nat) : rngK k (m + 1) = D.int (k : Int) :: rngK (k + 1) m := rfl
theorem rngD_K (n : Nat) : rngD 0 n = rngK 0 n := by
  unfold rngD rngK
  rw [List.range_eq_range']
  refine List.map_congr_left fun i _ => ?_
  rw [Int.zero_add]
theorem rngK_len (k m : Nat) : (rngK k m).length = m := by
  unfold rngK
  rw [List.length_map, List.length_range']
theorem cutD_to (xs : List D) (k : Nat) : cutD xs none (some (k : Int)) = xs.take k := by
  unfold cutD
  rw [HT.sIx_nat, HT.sIx_none, List.drop_zero, Nat.sub_zero]
  by_cases h : k ≤ xs.length
  · rw [Nat.min_eq_left h]
  · rw [Nat.min_eq_right (by omega), List.take_of_length_le (Nat.le_refl _), List.take_of_length_le (by omega)]
theorem cutD_last (xs : List D) : cutD xs none (some (-1)) = xs.take (xs.length - 1) := by
  unfold cutD
  rw [HT.sIx_none, List.drop_zero, Nat.sub_zero]
  have e : HT.sIx xs.length xs.length (some (-1)) = xs.length - 1 := by
    show (if (-1 : Int) < 0 then ((-1 : Int) + (xs.length : Int)).toNat else min (-1 : Int).toNat xs.length) = _
    rw [if_pos (by decide)]
    omega
  rw [e]
theorem aInts_lst (f : List Int → (D → Prop) → Prop) (ns : List Int) (P : Sl → Prop) : aInts f [.lst (ns.map D.int)] P = f ns fun d => P (.pu d) := by
  unfold aInts
  simp only [lstD, Option.bind_some, intsD_map]
theorem aIntsT_tup (f : List Int → (D → Prop) → Prop) (ns : List Int) (P : Sl → Prop) : aIntsT f [.tup (ns.map D.int)] P = f ns fun d => P (.pu d) := by
  unfold aIntsT
  simp only [intsD_map]
theorem aBls_lst (f : List Bool → Bool) (ns : List Bool) (P : Sl → Prop) : aBls f [.lst (ns.map D.bl)] P = P (.pu (.bl (f ns))) := by
  unfold aBls
  simp only [lstD, Option.bind_some, blsD_map]
theorem wipeS_set (s : Ss) (i : Nat) (l : Sl) (h : s.set i .no = s) : wipeS (s.set i l) [i] = s := by
  show (s.set i l).set i .no = s
  rw [List.set_set, h]
/-- a comprehension whose element is a value of its item -/
theorem lc_pure {e : AE} {i : Nat} {s : Ss} (hs : s.set i .no = s) (f : D → D) : ∀ (ds acc : List D) (P : List D → Ss → Prop), (∀ d, d ∈ ds → ∀ R : Sl → Ss → Prop, R (.pu (f d)) (s.set i (.pu d)) → e (s.set i (.pu d)) R) → acc.length + ds.length ≤ 100000 → P (acc ++ ds.map f) s →
    aLcD (agName i) aYes e [i] ds s acc P
  | [], acc, P, he, hl, h => by
    rw [List.map_nil, List.append_nil] at h
    exact h
  | d :: ds, acc, P, he, hl, h => by
    rw [List.length_cons] at hl
    unfold aLcD
    simp only [agName, aYes, if_true]
    refine he d List.mem_cons_self _ ⟨by omega, ?_⟩
    rw [wipeS_set s i _ hs]
    refine lc_pure hs f ds _ P (fun d' hd => he d' (List.mem_cons_of_mem _ hd)) (by rw [List.length_append, List.length_cons, List.length_nil]; omega) ?_
    rw [List.append_assoc]
    exact h
/-- a comprehension by an invariant I of the items made and the other slots -/
theorem lc_inv {e : AE} {i : Nat} (I : List D → Ss → Prop) : ∀ (ds acc : List D) (s : Ss) (P : List D → Ss → Prop), I acc s → acc.length + ds.length ≤ 100000 →
    (∀ acc s d, acc.length < 100000 → I acc s → d ∈ ds → ∀ R : Sl → Ss → Prop, (∀ r s3, I (acc ++ [r.d]) (wipeS s3 [i]) → R r s3) → e (s.set i (.pu d)) R) →
    (∀ acc' s, acc'.length = acc.length + ds.length → I acc' s → P acc' s) → aLcD (agName i) aYes e [i] ds s acc P
  | [], acc, s, P, h0, hl, he, h => h acc s rfl h0
  | d :: ds, acc, s, P, h0, hl, he, h => by
    rw [List.length_cons] at hl
    unfold aLcD
    simp only [agName, aYes, if_true]
    refine he acc s d (by omega) h0 List.mem_cons_self _ fun r s3 h3 => ?_
    refine ⟨by omega, lc_inv I ds _ _ P h3 (by rw [List.length_append, List.length_cons, List.length_nil]; omega) (fun acc s d' ha hi hd' => he acc s d' ha hi (List.mem_cons_of_mem _ hd')) fun acc' s hl2 hi => h acc' s ?_ hi⟩
    rw [hl2, List.length_append, List.length_cons, List.length_nil, List.length_cons]
    omega
/-- a for by an invariant I of what is left and the slots; body in the way of a continuation -/
theorem for_inv {g : AG} {b : AS} {A : AEnds} (I : List D → Ss → Prop) : ∀ (ds : List D) (s : Ss), I ds s → (∀ s, I [] s → A.nx s) →
    (∀ d ds s, I (d :: ds) s → ∀ B : Ss → Prop, (∀ s, I ds s → B s) → g d s fun s1 => b { nx := B, rt := A.rt, bk := A.nx, ct := B } s1) → aForD g b A ds s
  | [], s, h0, h, hb => h s h0
  | d :: ds, s, h0, h, hb => hb d ds s h0 _ fun s1 h1 => for_inv I ds s1 h1 h hb
end DL

namespace DL
open PySem L2

/-! ### repr -/
mutual
def pyD : D → PyData
  | .non => .none
  | .bl b => .bool b
  | .int i => .int i
  | .str x => .str x
  | .tup xs => .tuple (pyA xs)
  | .lst xs => .list (pyA xs)
  | .scr xs => .list (pyA xs)
  | .ob _ => .none
def pyA : List D → List PyData
  | [] => []
  | d :: ds => pyD d :: pyA ds
end
mutual
def shD : Nat → D → Prop
  | _, .non => True
  | _, .bl _ => True
  | _, .int i => -(10 ^ 60) < i ∧ i < 10 ^ 60
  | _, .str x => x.cps.toList.all (fun c => decide (c < 16 ^ 8)) = true
  | k, .tup xs => 0 < k ∧ shA (k - 1) xs
  | k, .lst xs => 0 < k ∧ shA (k - 1) xs
  | k, .scr xs => 0 < k ∧ shA (k - 1) xs
  | _, .ob _ => False
def shA : Nat → List D → Prop
  | _, [] => True
  | k, d :: ds => shD k d ∧ shA k ds
end
mutual
def sizD : D → Nat
  | .non => 0
  | .bl _ => 0
  | .int _ => 0
  | .str x => x.cps.size
  | .tup xs => sizA xs
  | .lst xs => sizA xs
  | .scr xs => sizA xs
  | .ob _ => 0
def sizA : List D → Nat
  | [] => 0
  | d :: ds => sizD d + 1 + sizA ds
end
section
variable {K : PySem.W.Frag} {F H : Hp}
theorem sqt_rd {a : Addr} {xs : List V} (le : Same F H) (h : SqT K F a xs) : SqT K H a xs := Same.sqt le h
mutual
theorem dp_of : ∀ (d : D) (k : Nat) (v : V), shD k d → Dq K F d v → Dp K F v (pyD d)
  | .non, k, v, _, h => by
    cases (show v = _ from h)
    exact .non
  | .bl b, k, v, _, h => by
    cases (show v = _ from h)
    exact .bl b
  | .int i, k, v, _, h => by
    cases (show v = _ from h)
    exact .int i
  | .str x, k, v, _, h => by
    cases (show v = _ from h)
    exact .str x
  | .tup ds, k, v, hs, h => by
    obtain ⟨a, xs, rfl, h1, h2⟩ := h
    exact .tup h1 (dp_all ds (k - 1) xs (by simp only [shD] at hs; exact hs.2) h2)
  | .lst ds, k, v, hs, h => by
    obtain ⟨a, xs, rfl, h1, h2⟩ := h
    exact .lst (SqL.of h1) (dp_all ds (k - 1) xs (by simp only [shD] at hs; exact hs.2) h2)
  | .scr ds, k, v, hs, h => by
    obtain ⟨a, xs, rfl, h1, h2⟩ := h
    exact .lst h1 (dp_all ds (k - 1) xs (by simp only [shD] at hs; exact hs.2) h2)
  | .ob f, k, v, hs, h => by
    simp only [shD] at hs
theorem dp_all : ∀ (ds : List D) (k : Nat) (vs : List V), shA k ds → DqA K F ds vs → DpAll K F vs (pyA ds)
  | [], k, vs, _, h => by
    cases (show vs = [] from h)
    exact .nil
  | d :: ds, k, vs, hs, h => by
    obtain ⟨x, r, rfl, h1, h2⟩ := h
    simp only [shA] at hs
    exact .cons (dp_of d k x hs.1 h1) (dp_all ds k r hs.2 h2)
end
theorem int60 {i : Int} (h : -(10 ^ 60) < i ∧ i < 10 ^ 60) : i.natAbs < 10 ^ 60 := by omega
mutual
theorem sh_ok : ∀ (d : D) (k : Nat), shD k d → (pyD d).showable = true ∧ (pyD d).leavesShort 64 = true ∧ (pyD d).depth ≤ k ∧ (pyD d).hasDict = false ∧ (pyD d).bulk ≤ sizD d
  | .non, k, _ => ⟨rfl, rfl, Nat.zero_le _, rfl, Nat.le_refl _⟩
  | .bl b, k, _ => ⟨rfl, rfl, Nat.zero_le _, rfl, Nat.le_refl _⟩
  | .int i, k, hs => by
    simp only [shD] at hs
    have h1 := int60 hs
    have h2 : i.natAbs.log2 < 200 := by
      by_cases hz : i.natAbs = 0
      · rw [hz]
        decide
      · exact (Nat.log2_lt hz).mpr (Nat.lt_of_lt_of_le h1 (by decide +kernel))
    have h3 := int_text_length_le10 (k := 60) (by decide) h1
    refine ⟨?_, ?_, Nat.zero_le _, rfl, Nat.le_refl _⟩
    · simp only [pyD, PyData.showable, decide_eq_true_eq]
      omega
    · simp only [pyD, PyData.leavesShort, decide_eq_true_eq]
      have : (PyData.shown (.int i)).length ≤ 61 := by
        have e : (PyData.shown (.int i)).length = (toString i).length := by
          simp only [PyData.shown]
          show (Str.ofString (toString i)).length = _
          rw [ofString_length]
        omega
      omega
  | .str x, k, hs => by
    simp only [shD] at hs
    refine ⟨rfl, ?_, Nat.zero_le _, rfl, Nat.le_refl _⟩
    simp only [pyD, PyData.leavesShort]
    exact hs
  | .tup ds, k, hs => by
    simp only [shD] at hs
    obtain ⟨h1, h2, h3, h4, h5⟩ := sh_all ds (k - 1) hs.2
    refine ⟨by simpa only [pyD, PyData.showable] using h1, by simpa only [pyD, PyData.leavesShort] using h2, ?_, by simpa only [pyD, PyData.hasDict] using h4, by simpa only [pyD, PyData.bulk, sizD] using h5⟩
    simp only [pyD, PyData.depth]
    omega
  | .lst ds, k, hs => by
    simp only [shD] at hs
    obtain ⟨h1, h2, h3, h4, h5⟩ := sh_all ds (k - 1) hs.2
    refine ⟨by simpa only [pyD, PyData.showable] using h1, by simpa only [pyD, PyData.leavesShort] using h2, ?_, by simpa only [pyD, PyData.hasDict] using h4, by simpa only [pyD, PyData.bulk, sizD] using h5⟩
    simp only [pyD, PyData.depth]
    omega
  | .scr ds, k, hs => by
    simp only [shD] at hs
    obtain ⟨h1, h2, h3, h4, h5⟩ := sh_all ds (k - 1) hs.2
    refine ⟨by simpa only [pyD, PyData.showable] using h1, by simpa only [pyD, PyData.leavesShort] using h2, ?_, by simpa only [pyD, PyData.hasDict] using h4, by simpa only [pyD, PyData.bulk, sizD] using h5⟩
    simp only [pyD, PyData.depth]
    omega
  | .ob f, k, hs => by simp only [shD] at hs
theorem sh_all : ∀ (ds : List D) (k : Nat), shA k ds → PyData.showableAll (pyA ds) = true ∧ PyData.leavesShortAll 64 (pyA ds) = true ∧ PyData.depthAll (pyA ds) ≤ k ∧ PyData.hasDictAll (pyA ds) = false ∧ PyData.bulkAll (pyA ds) ≤ sizA ds
  | [], k, _ => ⟨rfl, rfl, Nat.zero_le _, rfl, Nat.le_refl _⟩
  | d :: ds, k, hs => by
    simp only [shA] at hs
    obtain ⟨h1, h2, h3, h4, h5⟩ := sh_ok d k hs.1
    obtain ⟨g1, g2, g3, g4, g5⟩ := sh_all ds k hs.2
    refine ⟨by simp only [pyA, PyData.showableAll, h1, g1, Bool.and_self], by simp only [pyA, PyData.leavesShortAll, h2, g2, Bool.and_self], ?_, by simp only [pyA, PyData.hasDictAll, h4, g4, Bool.or_self], ?_⟩
    · simp only [pyA, PyData.depthAll]
      omega
    · simp only [pyA, PyData.bulkAll, sizA]
      omega
end
/-- repr(x) -/
def rRepr (K : PySem.W.Frag) : List V → Hp → VK → Prop := fun vs H Q => ∃ v d, vs = [v] ∧ Dp K H v d ∧ d.showable = true ∧ d.depth ≤ 60 ∧ d.hasDict = false ∧ d.shown.length ≤ sizeLine ∧ Q (.str d.shown) H
theorem cr_repr {X : Cx} {k : Nat} (hg : X.A.guards = some []) (hr : Room k X.A) : CallR X (.builtin "repr") (rRepr X.K) := by
  intro pins s σ H vs us Q I r h
  obtain ⟨v, d, rfl, hp, h1, h2, h3, h4, q⟩ := h
  obtain ⟨u, rfl, ru⟩ := vals1 r
  obtain ⟨as, rd⟩ := Dp.reads I d v u hp ru
  have un := hr.un
  cases hp with
  | non =>
    cases ru
    exact PySem.P.repr_of_none ⟨.str _, H, I.tok _, ⟨_, rfl⟩, q⟩
  | bl b =>
    cases ru
    cases b <;> exact PySem.P.repr_of_bool ⟨.str _, H, I.tok _, ⟨_, rfl⟩, q⟩
  | int i =>
    obtain ⟨t, rfl⟩ := ru
    refine PySem.P.repr_of_int ?_ ⟨.str _, H, I.tok _, ⟨_, rfl⟩, q⟩
    simpa only [PyData.showable, decide_eq_true_eq] using h1
  | str x =>
    obtain ⟨t, rfl⟩ := ru
    exact PySem.P.repr_of_str ⟨.str _, H, I.tok _, ⟨_, rfl⟩, q⟩ h4
  | lst hs ha =>
    cases ru
    exact repr_of_reads' rd h1 (PyData.noDict_hsm h3) hg (by omega) (fun _ _ e => e) (fun h' u tk hk => ⟨.str _, H, I.kept hk, ⟨_, rfl⟩, q⟩) h4
  | tup hs ha =>
    cases ru
    exact repr_of_reads' rd h1 (PyData.noDict_hsm h3) hg (by omega) (fun _ _ e => e) (fun h' u tk hk => ⟨.str _, H, I.kept hk, ⟨_, rfl⟩, q⟩) h4
/-- the text of repr -/
def rpD (d : D) : Str := (pyD d).shown
def aRepr : ARC := fun ds P => match ds with
  | [d] => (shD 40 d ∧ sizD d ≤ 200000) ∧ P (.pu (.str (rpD d)))
  | _ => False
theorem Dp.mono {v : V} {d : PyData} (le : Same F H) (h : Dp K F v d) : Dp K H v d := by
  refine Dp.rec (motive_1 := fun v d _ => Dp K H v d) (motive_2 := fun vs ds _ => DpAll K H vs ds) ?_ ?_ ?_ ?_ ?_ ?_ ?_ ?_ h
  · exact .non
  · exact fun b => .bl b
  · exact fun b => .int b
  · exact fun b => .str b
  · exact fun h1 _ h2 => .lst (Same.seq le h1) h2
  · exact fun h1 _ h2 => .tup (Same.sqt le h1) h2
  · exact .nil
  · exact fun _ _ h1 h2 => .cons h1 h2
theorem rc_repr : RC K (rRepr K) aRepr := fun ds P q F H xs le dx Q k => by
  match ds, q, dx with
  | [d], q, dx =>
    obtain ⟨v, rfl, h⟩ := dqa1 dx
    obtain ⟨⟨q1, q2⟩, q3⟩ := q
    obtain ⟨h1, h2, h3, h4, h5⟩ := sh_ok d _ q1
    refine ⟨v, pyD d, rfl, Dp.mono le (dp_of d _ v q1 h), h1, by omega, h4, ?_, k _ _ F H q3 (Lf.same le _ _ rfl)⟩
    have z := PyData.shown_le_bulk 64 (by decide) (pyD d) h2
    rw [sizeLine_eq]
    omega
end
end DL

/-! enumerate of a tuple -/
namespace PySem
open AutoSeq1 (wpAny_loadPart')
theorem enum_new_any {v : Value} {ob : Obj} {Hh : Heap → Prop} (bg : Begins v ob Hh) :
    Meets (Builtin.«enumerate.__new__» ⟨[.type "enumerate", v], []⟩) (fun _ R sh => Hh sh.heap ∧
      R (.ok (.ret (.ref (sh.heap.push ob).objs.size))) { sh with heap := (sh.heap.push ob).push { cls := .type "enumerate", data := .fields #[.none, .bool false, .ref sh.heap.objs.size, rawInt 0, .none, .none] } }) :=
  .of_wp fun pr wd Ar Rr sh hq => by
    obtain ⟨hp, gs, dd, tks, osx⟩ := sh
    obtain ⟨hyp, hq⟩ := hq
    have hsub2 := sub_enumerate
    have go : ∀ {A' : Around} {E : Value → Shared → Prop} {Q : Value → Shared → Prop}, Q (.ref hp.objs.size) ⟨hp.push ob, gs, dd, tks, osx⟩ → wpAny (model pr wd) A' (pyIter v) Q E ⟨hp, gs, dd, tks, osx⟩ := fun q => bg.iter pr wd _ _ ⟨hp, gs, dd, tks, osx⟩ _ hyp q
    wp_walk using go
    refine wpAny_stack_any fun st => wpAny_pure ?_
    split
    · rename_i cc _ _ _ _ _
      cases (cc == Value.type "enumerate")
      · wp_walk using go
        exact ⟨_, rfl, hq⟩
      · wp_walk using go
        exact ⟨_, rfl, hq⟩
    · wp_walk using go
      exact ⟨_, rfl, hq⟩
section
variable {pr : Program} {wd : World} {Ar : Around} {E : Value → Shared → Prop} {sh : Shared}
theorem call_enum_any {v : Value} {ob : Obj} {Hh : Heap → Prop} {Q : Value → Shared → Prop} (bg : Begins v ob Hh) (hyp : Hh sh.heap)
    (hq : ∀ h', IsEnum h' (sh.heap.objs.size + 1) sh.heap.objs.size 0 .none → h'.get? sh.heap.objs.size = some ob → h'.objs.size = sh.heap.objs.size + 2 → (∀ b o, sh.heap.get? b = some o → h'.get? b = some o) → Q (.ref (sh.heap.objs.size + 1)) { sh with heap := h' }) :
    wpAny (model pr wd) Ar (call (.type "enumerate") [v]) Q E sh := by
  refine callType_new F.called_enumerate (by decide) (F.typeCall_enumerate_1 _) (F.newCall_enumerate_1 _) (fun obj => F.args_object_init_2 obj _) F.entry_enumerate_new (enum_new_any bg) ⟨hyp, ?_⟩
  have hz : (sh.heap.push ob).objs.size = sh.heap.objs.size + 1 := Heap.size_push ..
  have en : IsEnum ((sh.heap.push ob).push { cls := .type "enumerate", data := .fields #[.none, .bool false, .ref sh.heap.objs.size, rawInt 0, .none, .none] }) (sh.heap.objs.size + 1) sh.heap.objs.size 0 .none := by
    have z := Heap.get?_push_size (sh.heap.push ob) (o := { cls := .type "enumerate", data := .fields #[.none, .bool false, .ref sh.heap.objs.size, rawInt 0, .none, .none] }) rfl
    rw [hz] at z
    exact z
  rw [hz]
  exact ⟨⟨_, en, rfl⟩, hq _ en (Heap.get?_push_of_some _ (Heap.get?_push_size _ bg.free)) (by rw [Heap.size_push, hz]) fun b o x => Heap.get?_push_of_some _ (Heap.get?_push_of_some _ x)⟩
end
end PySem
namespace DL
open PySem L2
/-- the tuple at a, each item in a new pair -/
def IteT (K : PySem.W.Frag) (a : Addr) : It :=
  ⟨fun i H => ∃ (xs : List V) (x : V), SqT K H a xs ∧ xs[i]? = some x, fun i H v H' => ∃ T x, v = .ref T ∧ H T = none ∧ H' = upd H T (.tup [.int (i : Nat), x]) ∧ ∀ xs, SqT K H a xs → xs[i]? = some x, fun i H => ∃ xs : List V, SqT K H a xs ∧ xs.length = i⟩
theorem turn_enumT {P : Program} {w : World} {K : PySem.W.Frag} {elts : List Expr} {kk : Nat} {tpos : Pos} (a e it : Addr) :
    Turn P w K (.Tuple elts kk tpos) (IteT K a) [e, it] e (fun i h => (∃ old, IsEnum h e it ((i : Nat) : Int) old) ∧ h.IsTupleIter it a i ∧ e ≠ it ∧ e ≠ a ∧ a ≠ it) where
  mem := List.mem_cons_self
  obj := fun i h st b hb => by
    obtain ⟨⟨old, he⟩, ⟨o, ho, hc, hd⟩, _⟩ := st
    rcases List.mem_cons.mp hb with z | z
    · rw [z]
      exact ⟨_, he, fun v q => nomatch q⟩
    · rw [List.mem_singleton.mp z]
      exact ⟨o, ho, fun v q => by rw [hd] at q; cases q⟩
  keep := fun i h h' st k => by
    obtain ⟨⟨old, he⟩, hi, hne⟩ := st
    exact ⟨⟨old, k e List.mem_cons_self _ he⟩, hi.at fun o q => k it (List.mem_cons_of_mem _ List.mem_cons_self) o q, hne⟩
  item := by
    intro X hP hw hK hc i pins s σ H E I hf st hg
    subst hP hw hK
    obtain ⟨⟨old, he⟩, hit, hne, nea, nai⟩ := st
    obtain ⟨xs, x, hq, hx⟩ := hg
    obtain ⟨its, rv, p, hz⟩ := I.tuple hq
    obtain ⟨u, hu, ru⟩ := rv.get hx
    have hel : e < s.heap.objs.size := Heap.lt_size he
    have hil : it < s.heap.objs.size := by
      obtain ⟨_, q, _⟩ := hit
      exact Heap.lt_size q
    have hlt : i < its.length := (List.getElem?_eq_some_iff.mp hu).1
    have hh : X.A.in1.handled = none := I.ok.hd hc
    refine wpAny_pyNext_enum_itemD (n := its.toArray.size) (Draws.tuple hh it a nai its.toArray) he ⟨hit, p⟩ (by simpa using hlt) hne (by simp [hne, nea]) fun x2 h' tk hx2 ho hit' hT hsz hk => ?_
    have e2 : x2 = u := by
      have hx2 : its.toArray[i]? = some x2 := hx2
      rw [show its.toArray[i]? = its[i]? by simp, hu] at hx2
      cases hx2
      rfl
    subst e2
    refine ⟨_, rfl, wpAny_letOwnedTupleGo_enum (s := { s with heap := h', toks := tk + 1 }) ho fun h'' he' sb => ?_⟩
    have hT2 : h''.get? s.heap.objs.size = some { cls := .type "tuple", data := .seq #[.int i tk, x2] } := (sb.2 _ (Nat.ne_of_gt hel)).trans hT
    have new : ObjOk X.prog X.w (upd H s.heap.objs.size (.tup [.int (i : Nat), x])) h'' s.heap.objs.size (.tup [.int (i : Nat), x]) :=
      ⟨by show 2 ≤ sizeLine; decide, [.int i tk, x2], .cons ⟨_, rfl⟩ (.cons ru .nil), ⟨_, hT2, rfl, _, rfl⟩⟩
    have mem2 : ∀ b, b ∉ [e, it] → b ≠ e ∧ b ≠ it := fun b hb => ⟨fun z => hb (by rw [z]; exact List.mem_cons_self), fun z => hb (by rw [z]; exact List.mem_cons_of_mem _ List.mem_cons_self)⟩
    have I1 : Inv X pins σ (upd H s.heap.objs.size (.tup [.int (i : Nat), x])) { s with heap := h'', toks := tk + 1 } :=
      I.turnedNew (ch := [e, it]) (fun b ob hb q => (sb.2 b (mem2 b hb).1).trans (hk b ob (mem2 b hb).1 (mem2 b hb).2 q)) hf (Nat.le_refl _) new
    refine ⟨.ref s.heap.objs.size, _, I1, rfl, ⟨_, x, rfl, I.hok.fresh (Nat.le_refl _), rfl, fun ys hy => by rw [I.tuple_inj hy hq]; exact hx⟩, ⟨⟨x2, ?_⟩, hit'.1.at fun o q => (sb.2 it (Ne.symm hne)).trans q, hne, nea, nai⟩, fun b hb => ?_⟩
    · rw [show ((i + 1 : Nat) : Int) = (i : Int) + 1 by omega]
      exact he'
    · have hb' : b < s.heap.objs.size := by
        rcases List.mem_cons.mp hb with z | z
        · rw [z]
          exact hel
        · rw [List.mem_singleton.mp z]
          exact hil
      rw [upd_ne (Nat.ne_of_lt hb')]
      exact (hf b hb).1
  done := by
    intro X hP hw hK hc i pins s σ H E I hf st hg
    subst hP hw hK
    obtain ⟨⟨old, he⟩, hit, hne, nea, nai⟩ := st
    obtain ⟨xs, hq, hx⟩ := hg
    obtain ⟨its, rv, p, hz⟩ := I.tuple hq
    obtain ⟨f0, f1, f2, f3, f4, f5⟩ := hf it (List.mem_cons_of_mem _ List.mem_cons_self)
    have hl := rv.length
    have hh : X.A.in1.handled = none := I.ok.hd hc
    have hs : its.toArray.size = i := by
      rw [List.size_toArray]
      omega
    have D1 := Draws.tuple (prog := X.prog) (w := X.w) hh it a nai its.toArray
    exact wpAny_pyNext_enum_endD D1 he (by rw [hs]; exact ⟨hit, p⟩) fun h' eb => ⟨rfl, I.turned (t' := s.toks) (fun b o hb q => eb b o hb q) f0 f1 f3 f4 f5⟩
  self := fun A i s Q E st h => let ⟨⟨_, he⟩, _⟩ := st; wpAny_pyIter_enum he h
def iEnumT (K : PySem.W.Frag) (ta : TA) : TI := fun σ H R => ta σ H fun vs H1 => ∃ a xs, vs = [.ref a] ∧ SqT K H1 a xs ∧ R (IteT K a) H1
theorem pi_enumT {X : Cx} {e : Expr} {ta : TA} {p pos tpos : Pos} {elts : List Expr} {kk : Nat} (hg : Gl X "enumerate") (hm : X.mg "enumerate" = none) (ha : PA X [e] ta) (hs : starEach [e] X.env = [(false, eval e X.env)] := by rfl) :
    PI X (.Tuple elts kk tpos) (.Call (.Name "enumerate" p) [e] [] pos) (iEnumT X.K ta) := by
  refine ⟨fun pins s σ H R I h => ?_⟩
  refine PyProof.Rows.Call_ (ld_blt I hg hm PyProof.Rows.boot_enumerate (PyProof.Rows.callWith_type1 (thn (ha.run pos pins s σ H _ I h) fun us s1 ⟨vs, H1, I1, r1, q1⟩ => ?_) hs rfl))
  obtain ⟨a, xs, rfl, hq, q⟩ := q1
  rw [Vals.ref1 r1]
  obtain ⟨its, rv, tp, hz⟩ := I1.tuple hq
  have hlt : a < s1.heap.objs.size := by
    obtain ⟨o, ho, _⟩ := tp
    exact Heap.lt_size ho
  refine call_enum_any (begins_tuple a its.toArray) tp fun h' he hit hsz hk => wpAny_pyIter_enum he ?_
  have I2 : Inv X pins σ H1 { s1 with heap := h' } := I1.kept (t' := s1.toks) hk
  refine ⟨s1.heap.objs.size + 1, [s1.heap.objs.size + 1, s1.heap.objs.size], _, _, H1, rfl, I2, turn_enumT a (s1.heap.objs.size + 1) s1.heap.objs.size, ⟨⟨.none, he⟩, ⟨_, hit, rfl, rfl⟩, Nat.succ_ne_self _, Nat.ne_of_gt (Nat.lt_succ_of_lt hlt), Nat.ne_of_lt hlt⟩, fun b hb => ?_, q⟩
  have hle : s1.heap.objs.size ≤ b := by
    rcases List.mem_cons.mp hb with z | z
    · rw [z]
      exact Nat.le_add_right _ _
    · rw [List.mem_singleton.mp z]
      exact Nat.le_refl _
  exact I1.fpOk hle (I1.hok.fresh hle)
theorem walk_enumT {K : PySem.W.Frag} {a : Addr} {xs : List V} : Walk (IteT K a) xs.length (fun H => SqT K H a xs) (YPair (fun i => some (.int (i : Nat))) (fun i => xs[i]?)) := by
  refine ⟨fun i _ hi q => ⟨xs, xs[i], q, List.getElem?_eq_getElem hi⟩, fun _ q => ⟨xs, q, rfl⟩, fun i H v H' _ q y => ?_⟩
  obtain ⟨T, x, h1, h2, h3, h4⟩ := y
  exact ⟨T, .int (i : Nat), x, h1, h2, h3, rfl, h4 xs q⟩
/-! over data -/
def enumD (ds : List D) : List D := (List.range ds.length).zip ds |>.map fun p => D.tup [.int (p.1 : Nat), p.2]
def aItEnT (a : AA) : AI := fun s P => a s fun ds s1 => match ds with
  | [.tup es] => P (enumD es) s1
  | _ => False
theorem enumD_get {ds : List D} {i : Nat} {d : D} (h : (enumD ds)[i]? = some d) : ∃ e, ds[i]? = some e ∧ d = .tup [.int (i : Nat), e] := by
  unfold enumD at h
  rw [List.getElem?_map] at h
  cases e1 : ((List.range ds.length).zip ds)[i]? with
  | none =>
    rw [e1] at h
    cases h
  | some p =>
    rw [e1] at h
    cases h
    obtain ⟨h1, h2⟩ := List.getElem?_zip_eq_some.mp e1
    obtain ⟨h3, h4⟩ := List.getElem?_eq_some_iff.mp h1
    rw [List.getElem_range] at h4
    exact ⟨p.2, h2, by rw [h4]⟩
theorem enumD_len (ds : List D) : (enumD ds).length = ds.length := by
  unfold enumD
  simp
theorem pair_lf {K : PySem.W.Frag} {F1 H2 H3 : Hp} {x : V} {d e : D} {v1 v2 : V} {T : Addr} (e2 : Same F1 H2) (h2 : H2 T = none) (hx : x = .ref T) (h3 : H3 = upd H2 T (.tup [v1, v2])) (d1 : Dq K F1 d v1) (d2 : Dq K F1 e v2) : ∃ F2, Lf K F1 H2 (.pu (.tup [d, e])) x F2 H3 := by
  subst hx h3
  exact ⟨_, Lf.newT e2 h2 ⟨v1, [v2], rfl, d1, v2, [], rfl, d2, rfl⟩⟩
theorem simi_enT {K : PySem.W.Frag} {t : TA} {a : AA} (h : SimA K t a) : SimI K (iEnumT K t) (aItEnT a) := fun s P q σ F H ok R k => by
  refine h s _ q σ F H ok _ fun ds s1 vs F1 H1 q1 st1 d1 => ?_
  match ds, q1, d1 with
  | [.tup es], q1, d1 =>
    obtain ⟨v, rfl, g⟩ := dqa1 d1
    obtain ⟨a, xs, rfl, h1, h2⟩ := g
    refine ⟨a, xs, rfl, Same.sqt st1.st.le h1, k _ s1 _ F1 H1 q1 st1 ⟨fun H => SqT K H a xs, YPair (fun i => some (.int (i : Nat))) (fun i => xs[i]?), ?_, fun H2 e => Same.sqt e h1, fun i H2 x H3 e y d hd F2 e1 e2 => ?_⟩⟩
    · rw [enumD_len, ← h2.length]
      exact walk_enumT
    · obtain ⟨T, y1, y2, g1, g2, g3, g4, g5⟩ := y
      obtain ⟨ed, he, rfl⟩ := enumD_get hd
      obtain ⟨x2, w1, w2⟩ := h2.get he
      have g5 : xs[i]? = some y2 := g5
      rw [w1] at g5
      cases g5
      cases g4
      exact pair_lf e2 g2 g1 g3 rfl (Dq.mono e1 _ _ w2)
theorem di_enumerateT {X : Cx} {K : PySem.W.Frag} (hK : X.K = K := by rfl) {ea : Expr} {tr : TA} {ar : AA} {p pos tpos : Pos} {elts : List Expr} {kk : Nat} (hm : X.mg "enumerate" = none) (ha : DA X [ea] tr ar) (hg : Gl X "enumerate" := by rfl) (hs : starEach [ea] X.env = [(false, eval ea X.env)] := by rfl) :
    DI X (.Tuple elts kk tpos) (.Call (.Name "enumerate" p) [ea] [] pos) (iEnumT K tr) (aItEnT ar) := by
  subst hK
  exact ⟨pi_enumT hg hm ha.pe hs, simi_enT ha.sm⟩
/-- enumerate of a list -/
def aItEnL (a : AA) : AI := fun s P => a s fun ds s1 => match ds with
  | [d] => match lstD d with
    | some es => P (enumD es) s1
    | none => False
  | _ => False
theorem simi_enL {K : PySem.W.Frag} {t : TA} {a : AA} (h : SimA K t a) : SimI K (iEnum K t) (aItEnL a) := fun s P q σ F H ok R k => by
  refine h s _ q σ F H ok _ fun ds s1 vs F1 H1 q1 st1 d1 => ?_
  match ds, q1, d1 with
  | [d], q1, d1 =>
    obtain ⟨v, rfl, g⟩ := dqa1 d1
    simp only at q1
    cases e0 : lstD d with
    | none =>
      rw [e0] at q1
      exact q1.elim
    | some es =>
      rw [e0] at q1
      obtain ⟨a, xs, rfl, h1, h2⟩ := lstD_ok e0 g
      refine ⟨a, xs, rfl, Same.seq st1.st.le h1, k _ s1 _ F1 H1 q1 st1 ⟨fun H => SqL K H a xs, YPair (fun i => some (.int (i : Nat))) (fun i => xs[i]?), ?_, fun H2 e => Same.seq e h1, fun i H2 x H3 e y d hd F2 e1 e2 => ?_⟩⟩
      · rw [enumD_len, ← h2.length]
        exact walk_enum
      · obtain ⟨T, y1, y2, g1, g2, g3, g4, g5⟩ := y
        obtain ⟨ed, he, rfl⟩ := enumD_get hd
        obtain ⟨x2, w1, w2⟩ := h2.get he
        have g5 : xs[i]? = some y2 := g5
        rw [w1] at g5
        cases g5
        cases g4
        exact pair_lf e2 g2 g1 g3 rfl (Dq.mono e1 _ _ w2)
theorem di_enumerateL {X : Cx} {K : PySem.W.Frag} (hK : X.K = K := by rfl) {ea : Expr} {tr : TA} {ar : AA} {p pos tpos : Pos} {elts : List Expr} {kk : Nat} (hm : X.mg "enumerate" = none) (ha : DA X [ea] tr ar) (hg : Gl X "enumerate" := by rfl) (hs : starEach [ea] X.env = [(false, eval ea X.env)] := by rfl) :
    DI X (.Tuple elts kk tpos) (.Call (.Name "enumerate" p) [ea] [] pos) (iEnum K tr) (aItEnL ar) := by
  subst hK
  exact ⟨pi_enum hg hm ha.pe hs, simi_enL ha.sm⟩
/-- zip of two tuples, of two lists -/
def zipD (ds es : List D) : List D := (ds.zip es).map fun p => D.tup [p.1, p.2]
theorem zipD_len (ds es : List D) : (zipD ds es).length = min ds.length es.length := by
  unfold zipD
  simp
theorem zipD_get {ds es : List D} {i : Nat} {d : D} (h : (zipD ds es)[i]? = some d) : ∃ x y, ds[i]? = some x ∧ es[i]? = some y ∧ d = .tup [x, y] := by
  unfold zipD at h
  rw [List.getElem?_map] at h
  cases e1 : (ds.zip es)[i]? with
  | none =>
    rw [e1] at h
    cases h
  | some p =>
    rw [e1] at h
    cases h
    obtain ⟨h1, h2⟩ := List.getElem?_zip_eq_some.mp e1
    exact ⟨p.1, p.2, h1, h2, rfl⟩
theorem walk_zipT {K : PySem.W.Frag} {a b : Addr} {xs ys : List V} {n : Nat} (hn : n = min xs.length ys.length) : Walk (RZ.ItzT K a b) n (fun H => SqT K H a xs ∧ SqT K H b ys) (YPair (fun i => xs[i]?) (fun i => ys[i]?)) := by
  subst hn
  refine ⟨fun i _ hi q => ⟨xs, ys, _, _, q.1, q.2, List.getElem?_eq_getElem (show i < xs.length by omega), List.getElem?_eq_getElem (show i < ys.length by omega)⟩, fun _ q => ⟨xs, ys, q.1, q.2, by omega⟩, fun i H v H' _ q y => ?_⟩
  obtain ⟨T, x, z, h1, h2, h3, h4, h5⟩ := y
  exact ⟨T, x, z, h1, h2, h3, h4 xs q.1, h5 ys q.2⟩
def aItZip (a : AA) : AI := fun s P => a s fun ds s1 => match ds with
  | [.tup xs, .tup ys] => P (zipD xs ys) s1
  | [d, e] => match lstD d, lstD e with
    | some xs, some ys => P (zipD xs ys) s1
    | _, _ => False
  | _ => False
theorem simi_zip {K : PySem.W.Frag} {t : TA} {a : AA} (h : SimA K t a) : SimI K (RZ.iZipA K t) (aItZip a) := fun s P q σ F H ok R k => by
  refine h s _ q σ F H ok _ fun ds s1 vs F1 H1 q1 st1 d1 => ?_
  have lists : ∀ d e, ds = [d, e] → (∃ us ws, lstD d = some us ∧ lstD e = some ws ∧ P (zipD us ws) s1) → ∃ a b xs ys, vs = [.ref a, .ref b] ∧ ((SqL K H1 a xs ∧ SqL K H1 b ys ∧ R (Itz K a b) H1) ∨ (SqT K H1 a xs ∧ SqT K H1 b ys ∧ R (RZ.ItzT K a b) H1)) := fun d e eds q7 => by
    subst eds
    obtain ⟨v, w, rfl, g, g'⟩ := dqa2 d1
    obtain ⟨us, ws, e0, e0', q8⟩ := q7
    obtain ⟨a, xs, rfl, h1, h2⟩ := lstD_ok e0 g
    obtain ⟨b, ys, rfl, h1', h2'⟩ := lstD_ok e0' g'
    refine ⟨a, b, xs, ys, rfl, .inl ⟨Same.seq st1.st.le h1, Same.seq st1.st.le h1', k _ s1 _ F1 H1 q8 st1 ⟨fun H => SqL K H a xs ∧ SqL K H b ys, YPair (fun i => xs[i]?) (fun i => ys[i]?), walk_zip (by rw [zipD_len, h2.length, h2'.length]), fun H2 e => ⟨Same.seq e h1, Same.seq e h1'⟩, fun i H2 x H3 e y d hd F2 e1 e2 => ?_⟩⟩⟩
    obtain ⟨T, y1, y2, g1, g2, g3, g4, g5⟩ := y
    obtain ⟨ed, ed', he, he', rfl⟩ := zipD_get hd
    obtain ⟨x2, w1, w2⟩ := h2.get he
    obtain ⟨x3, w3, w4⟩ := h2'.get he'
    have g4 : xs[i]? = some y1 := g4
    have g5 : ys[i]? = some y2 := g5
    rw [w1] at g4
    rw [w3] at g5
    cases g4
    cases g5
    exact pair_lf e2 g2 g1 g3 (Dq.mono e1 _ _ w2) (Dq.mono e1 _ _ w4)
  unfold aItZip at q1
  split at q1
  · rename_i xs0 ys0
    obtain ⟨v, w, rfl, g, g'⟩ := dqa2 d1
    obtain ⟨a, xs, rfl, h1, h2⟩ := g
    obtain ⟨b, ys, rfl, h1', h2'⟩ := g'
    refine ⟨a, b, xs, ys, rfl, .inr ⟨Same.sqt st1.st.le h1, Same.sqt st1.st.le h1', k _ s1 _ F1 H1 q1 st1 ⟨fun H => SqT K H a xs ∧ SqT K H b ys, YPair (fun i => xs[i]?) (fun i => ys[i]?), walk_zipT (by rw [zipD_len, h2.length, h2'.length]), fun H2 e => ⟨Same.sqt e h1, Same.sqt e h1'⟩, fun i H2 x H3 e y d hd F2 e1 e2 => ?_⟩⟩⟩
    obtain ⟨T, y1, y2, g1, g2, g3, g4, g5⟩ := y
    obtain ⟨ed, ed', he, he', rfl⟩ := zipD_get hd
    obtain ⟨x2, w1, w2⟩ := h2.get he
    obtain ⟨x3, w3, w4⟩ := h2'.get he'
    have g4 : xs[i]? = some y1 := g4
    have g5 : ys[i]? = some y2 := g5
    rw [w1] at g4
    rw [w3] at g5
    cases g4
    cases g5
    exact pair_lf e2 g2 g1 g3 (Dq.mono e1 _ _ w2) (Dq.mono e1 _ _ w4)
  · rename_i d e _
    refine lists d e rfl ?_
    cases e0 : lstD d with
    | none =>
      rw [e0] at q1
      exact q1.elim
    | some us =>
      cases e1 : lstD e with
      | none =>
        rw [e0, e1] at q1
        exact q1.elim
      | some ws =>
        rw [e0, e1] at q1
        exact ⟨us, ws, rfl, rfl, q1⟩
  · exact q1.elim
theorem di_zip {X : Cx} {K : PySem.W.Frag} (hK : X.K = K := by rfl) {ea eb : Expr} {tr : TA} {ar : AA} {p pos tpos : Pos} {elts : List Expr} {kk : Nat} (hm : X.mg "zip" = none) (ha : DA X [ea, eb] tr ar) (hg : Gl X "zip" := by rfl) (hs : starEach [ea, eb] X.env = (false, eval ea X.env) :: starEach [eb] X.env := by rfl) (hpl : (backTo pos (starEach [eb] X.env)).any (·.1) = false := by rfl) :
    DI X (.Tuple elts kk tpos) (.Call (.Name "zip" p) [ea, eb] [] pos) (RZ.iZipA K tr) (aItZip ar) := by
  subst hK
  exact ⟨RZ.pi_zipA hg hm ha.pe hs hpl, simi_zip ha.sm⟩
end DL

namespace DL
open PySem L2

/-! ### calls by keywords alone -/
def gP {α : Type} (n : Nat) (ix : List Nat) (us ws : List α) : List α := if us.length = 0 ∧ ws.length = n then ix.filterMap (fun i => ws[i]?) else []
theorem vals_pick {zs : List V} {ws : List Value} (r : Vals zs ws) : ∀ ix : List Nat, Vals (ix.filterMap (fun i => zs[i]?)) (ix.filterMap (fun i => ws[i]?))
  | [] => .nil
  | i :: ix => by
    rw [List.filterMap_cons, List.filterMap_cons]
    cases e : zs[i]? with
    | none =>
      rw [r.none_of e]
      exact vals_pick r ix
    | some x =>
      obtain ⟨u, h1, h2⟩ := r.get e
      rw [h1]
      exact .cons h2 (vals_pick r ix)
theorem dqa_pick {K : PySem.W.Frag} {F : Hp} {ds : List D} {zs : List V} (h : DqA K F ds zs) : ∀ ix : List Nat, DqA K F (ix.filterMap (fun i => ds[i]?)) (ix.filterMap (fun i => zs[i]?))
  | [] => rfl
  | i :: ix => by
    rw [List.filterMap_cons, List.filterMap_cons]
    cases e : ds[i]? with
    | none =>
      have e2 : zs[i]? = none := by
        rw [List.getElem?_eq_none_iff] at e ⊢
        rw [h.length]
        exact e
      rw [e2]
      exact dqa_pick h ix
    | some d =>
      obtain ⟨x, h1, h2⟩ := h.get e
      rw [h1]
      exact ⟨x, _, rfl, h2, dqa_pick h ix⟩
theorem kbinds_of {K : PySem.W.Frag} {fd : FuncData} {ps ks : List Str} {n : Nat} {ix : List Nat} (hp : 0 < ps.length) (h : ∀ (s : Shared) (ws : List Value), K.In s.heap → ws.length = n → BindsTo s fd ⟨[], ks.zip ws⟩ (ps.zip (ix.filterMap (fun i => ws[i]?)))) : KBinds K fd ps ks (gP n ix) (gP n ix) := by
  refine ⟨fun s us ws kin hl => ?_, fun {vs us zs ws} r rz => ?_⟩
  · unfold gP at hl ⊢
    by_cases c : us.length = 0 ∧ ws.length = n
    · rw [if_pos c]
      have e : us = [] := List.eq_nil_of_length_eq_zero c.1
      subst e
      exact h s ws kin c.2
    · rw [if_neg c] at hl
      rw [← hl] at hp
      exact absurd hp (Nat.lt_irrefl _)
  · unfold gP
    rw [r.length, rz.length]
    by_cases c : us.length = 0 ∧ ws.length = n
    · rw [if_pos c, if_pos c]
      exact vals_pick rz ix
    · rw [if_neg c, if_neg c]
      exact .nil
structure DK (X : Cx) (ks : List Keyword) (t : TA) (a : AA) : Prop where
  pe : PK X ks t
  sm : SimA X.K t a
section
variable {X : Cx} {te : TE} {ta : TA} {a : AE} {ar : AA} {e : Expr} {kws : List Keyword} {nm : Option Str} {kpos : Pos}
theorem dk_nil : DK X [] tNil aNil := ⟨pk_nil, sim_nil⟩
theorem dk_cons (h : DE X e te a) (hr : DK X kws ta ar) : DK X (⟨nm, e, kpos⟩ :: kws) (tCons te ta) (aCons a ar) := ⟨pk_cons h.pe hr.pe, sim_cons h.sm hr.sm⟩
end
def aCallK (n m : Nat) (ix : List Nat) (S : ARC) (a : AA) : AE := fun s P => a s fun ds s1 => ds.length = m ∧ aFn n S (ix.filterMap (fun i => ds[i]?)) fun r => P r s1
theorem sim_callK {K : PySem.W.Frag} {n m : Nat} {ix : List Nat} {S : ARC} {t : TA} {a : AA} (h : SimA K t a) : Sim K (tCallK (spD K n S) (gP m ix) E0 tNil t) (aCallK n m ix S a) := fun s P q σ F H ok Q k => by
  show t σ H fun zs H2 => spD K n S (gP m ix [] zs) H2 Q E0
  refine h s _ q σ F H ok _ fun ds s1 zs F1 H1 q1 st1 d1 => ?_
  obtain ⟨q1, q2⟩ := q1
  have e : gP m ix ([] : List V) zs = ix.filterMap (fun i => zs[i]?) := by
    unfold gP
    rw [if_pos ⟨rfl, by rw [d1.length, q1]⟩]
  rw [e]
  refine ⟨F1, _, _, st1.st.le, dqa_pick d1 ix, q2.1, q2.2, fun rs v F2 H2 hp l => ?_⟩
  obtain ⟨st2, rs2⟩ := st1.leaf l
  exact k rs s1 v F2 H2 hp st2 rs2
theorem d_callK {X : Cx} {K : PySem.W.Frag} (hK : X.K = K := by rfl) {x : Str} {f : Addr} {fd : FuncData} {ps ks : List Str} {k n m : Nat} {ix : List Nat} {S : ARC} {tr : TA} {aar : AA} {p pos : Pos} {kws : List Keyword} (F : GnOk X.prog X.w K X.mg X.base CX0 k f fd ps (spD K n S)) (hgd : X.A.guards = some []) (hr : Room k X.A) (hm : X.mg x = some (.ref f)) (hk : PySem.W.keepIn K (.ref f) = true) (hb : KBinds K fd ps ks (gP m ix) (gP m ix))
    (ha : DK X kws tr aar) (hg : Gl X x := by rfl) (hall : (backToKw pos (keywordEach kws X.env)).all (·.1.isSome) = true := by rfl) (hks : (backToKw pos (keywordEach kws X.env)).filterMap (·.1) = ks := by rfl)
    (hdb : (x == ("__debug__" : Str)) = false := by decide) (hpl : ((backTo pos (starEach [] X.env)).any (·.1) || (backToKw pos (keywordEach kws X.env)).any (·.1.isNone)) = false := by rfl) :
    DE X (.Call (.Name x p) [] kws pos) (tCallK (spD K n S) (gP m ix) E0 tNil tr) (aCallK n m ix S aar) := by
  subst hK
  exact ⟨pe_gK F hgd hr hg hm hk hb pass0 ha.pe hall hks hdb hpl, sim_callK ha.sm⟩
/-! ### a built-in of a list that a slot owns, which stays owned -/
theorem sim_bor {K : PySem.W.Frag} {r : List V → Hp → VK → Prop} {ar : ARC} {i : Nat} (hr : RC K r ar) : Sim K (tCB r (tCons (tVar i) tNil)) (aBor ar i) := fun s P q σ F H ok Q k => by
  unfold aBor at q
  cases e : s[i]? with
  | none =>
    rw [e] at q
    exact q.elim
  | some l =>
    rw [e] at q
    cases l with
    | no => exact q.elim
    | pu d => exact q.elim
    | ow p xs =>
      obtain ⟨o, h1, h2⟩ := ok.get e
      obtain ⟨rfl, g1, vs, g2, g3⟩ := h2
      refine ⟨.ref p, h1, ?_⟩
      have e1 : Same F (upd F p (.lst vs)) := fun b o q => by
        rw [upd_ne (ne_of_none q g1)]
        exact q
      have e2 : Same (upd F p (.lst vs)) H := fun b o q => by
        by_cases hb : b = p
        · subst hb
          rw [upd_same] at q
          cases q
          exact g2
        · rw [upd_ne hb] at q
          exact ok.le b o q
      refine hr [.lst xs] _ q (upd F p (.lst vs)) H [.ref p] e2 ⟨.ref p, [], rfl, ⟨p, vs, rfl, upd_same, DqA.mono e1 _ _ g3⟩, rfl⟩ Q fun rs v F2 H2 hp l => ?_
      obtain ⟨d, rfl, fl, q3⟩ := hp
      obtain ⟨w, w1, w2⟩ := l.ok
      cases w1
      obtain ⟨st2, rs2⟩ := (Step.refl ok).leaf (⟨Same.refl _, l.h, ok.le.trans l.h, fun _ h => .inl h, ⟨v, rfl, flat_any fl w2⟩, fun _ _ e => by cases e⟩ : Lf K F H (.pu d) v F H2)
      exact k _ s v F H2 q3 st2 rs2
section
variable {X : Cx} {p pos p2 : Pos} {y : Str} {i : Nat}
theorem d_bor {K : PySem.W.Frag} (hK : X.K = K := by rfl) {x : Str} {id : String} {r : List V → Hp → VK → Prop} {ar : ARC} (hr : RC K r ar) (hc : CallR X (.builtin id) r) (hm : X.mg x = none) (hv : bootBuiltins x = some (.builtin id)) (ha : DE X (.Name y p2) (tVar i) (aVar i)) (hg : Gl X x := by rfl) (hn : x ≠ "__name__" := by decide) (hdb : (x == ("__debug__" : Str)) = false := by decide)
    (he : starEach [.Name y p2] X.env = (false, eval (.Name y p2) X.env) :: starEach [] X.env := by rfl) (hpl : (backTo pos (starEach [] X.env)).any (·.1) = false := by rfl) : DE X (.Call (.Name x p) [.Name y p2] [] pos) (tCB r (tCons (tVar i) tNil)) (aBor ar i) := by
  subst hK
  exact ⟨pe_callB hc hg hm hv (pa_cons ha.pe pa_nil he) hn hdb he hpl, sim_bor hr⟩
end
/-! ### sums of lists, of tuples -/
def aCatL : AR2 := fun d e P => match d, e with
  | .lst xs, .lst ys => xs.length + ys.length ≤ 200000 ∧ ∀ p, P (.ow p (xs ++ ys))
  | _, _ => False
theorem rd_catL {K : PySem.W.Frag} : RD K rCat aCatL := fun d e P q F H x y le dx dy Q k => by
  unfold aCatL at q
  split at q
  · rename_i xs ys
    obtain ⟨a, us, rfl, h1, h2⟩ := dx
    obtain ⟨b, ws, rfl, h3, h4⟩ := dy
    refine ⟨a, b, us, ws, rfl, rfl, le _ _ h1, le _ _ h3, ?_, fun p hp => k _ _ _ _ (q.2 p) (Lf.newL le hp (h2.append h4))⟩
    rw [h2.length, h4.length]
    exact Nat.le_trans q.1 (by decide)
  · exact q.elim
def aCatT : AR2 := fun d e P => match d, e with
  | .tup xs, .tup ys => xs.length + ys.length ≤ 200000 ∧ P (.pu (.tup (xs ++ ys)))
  | _, _ => False
theorem rd_catT {K : PySem.W.Frag} : RD K (rCatA K) aCatT := fun d e P q F H x y le dx dy Q k => by
  unfold aCatT at q
  split at q
  · rename_i xs ys
    obtain ⟨a, us, rfl, h1, h2⟩ := dx
    obtain ⟨b, ws, rfl, h3, h4⟩ := dy
    refine ⟨a, b, us, ws, rfl, rfl, Same.sqt le h1, Same.sqt le h3, ?_, fun e => ?_, fun _ e => ?_, fun _ _ p hp => k _ _ _ _ q.2 (Lf.newT le hp (h2.append h4))⟩
    · rw [h2.length, h4.length]
      exact Nat.le_trans q.1 (by decide)
    · have z := h2.append h4
      rw [e, List.nil_append] at z
      exact k _ _ F H q.2 (Lf.same le _ _ ⟨b, ws, rfl, h3, z⟩)
    · have z := h2.append h4
      rw [e, List.append_nil] at z
      exact k _ _ F H q.2 (Lf.same le _ _ ⟨a, us, rfl, h1, z⟩)
  · exact q.elim
section
variable {X : Cx} {te ta tb : TE} {a aa ab : AE} {ea eb : Expr} {pos : Pos}
theorem d_cat_lst (ha : DE X ea ta aa) (hb : DE X eb tb ab) : DE X (.BinOp ea .Add eb pos) (tOp rCat ta tb) (aOp aCatL aa ab) := d_op op_cat rd_catL ha hb
theorem d_cat_tup {K : PySem.W.Frag} (hK : X.K = K := by rfl) (ha : DE X ea ta aa) (hb : DE X eb tb ab) : DE X (.BinOp ea .Add eb pos) (tOp (rCatA K) ta tb) (aOp aCatT aa ab) := by
  subst hK
  exact d_op op_catA rd_catT ha hb
end
end DL
namespace DL
open PySem L2
theorem kbinds_fun {K : PySem.W.Frag} {x qual : Str} {st : Stmt} {f : Addr} {fd : FuncData} {ps ks : List Str} {n : Nat} {ix : List Nat} (F : Fun K x qual st f fd) (hp : 0 < ps.length)
    (h : ∀ (kV doc pm : Value) (an : Option Addr) (cdv ct : Value) (ws : List Value), ws.length = n → bindArgs (PySem.W.fnOf x qual (defArgs st) (defBody st) (defScope st) .none kV doc pm an cdv ct) ⟨[], ks.zip ws⟩ = pure (ps.zip (ix.filterMap (fun i => ws[i]?)))) : KBinds K fd ps ks (gP n ix) (gP n ix) := by
  obtain ⟨oc, od, kV, doc, pm, an, cdv, ct, osl, rfl, lk, hcd⟩ := F.ex
  exact kbinds_of hp fun s ws _ hl => .of_eq (h kV doc pm an cdv ct ws hl)
end DL

/-! what the texts of all laws share: lemmas, promises of the law's own draws -/
namespace DL
open PySem L2
theorem at2_0 (x y : D) : atI [x, y] 0 = some x := rfl
theorem at2_1 (x y : D) : atI [x, y] 1 = some y := rfl
theorem at3_0 (x y z : D) : atI [x, y, z] 0 = some x := rfl
theorem at3_1 (x y z : D) : atI [x, y, z] 1 = some y := rfl
theorem at3_2 (x y z : D) : atI [x, y, z] 2 = some z := rfl
theorem ix3_0 : ixN 3 0 = some 0 := rfl
theorem ix3_2 : ixN 3 2 = some 2 := rfl
theorem dec_t {c : Prop} [Decidable c] : (decide c = true) = c := decide_eq_true_eq
theorem seq_cut {t u : AS} {A : AEnds} {s : Ss} (s1 : Ss) (h1 : ∀ B : Ss → Prop, B s1 → t { A with nx := B } s) (h2 : u A s1) : aSeq t u A s := h1 _ h2
theorem if_cut {c : AT} {t u : AS} {A : AEnds} {s : Ss} (b : Bool) (s1 : Ss) (h : ∀ P : Bool → Ss → Prop, P b s1 → c s P) (h2 : if b = true then t A s1 else u A s1) : aIfS c t u A s := h _ h2
theorem if_cutR {c : AT} {t u : AS} {A : AEnds} {s : Ss} (R : Bool → Ss → Prop) (h : ∀ P : Bool → Ss → Prop, (∀ b s1, R b s1 → P b s1) → c s P) (h2 : ∀ b s1, R b s1 → if b = true then t A s1 else u A s1) : aIfS c t u A s := h _ h2
theorem seq_cutR {t u : AS} {A : AEnds} {s : Ss} (R : Ss → Prop) (h1 : ∀ B : Ss → Prop, (∀ s1, R s1 → B s1) → t { A with nx := B } s) (h2 : ∀ s1, R s1 → u A s1) : aSeq t u A s := h1 _ h2
theorem endsM_ret {P : Sl → List D → Prop} {p : Addr} {s : Ss} (r : Sl) (xs : List D) (e : s[0]? = some (.ow p xs)) (h : P r xs) : (endsM P p).rt r s := ⟨xs, e, h⟩
theorem all_bl {α : Type} (f : α → Bool) : ∀ (l : List α), (∀ x ∈ l, f x = true) → (l.map f).all id = true
  | [], _ => rfl
  | x :: l, h => by
    rw [List.map_cons, List.all_cons, all_bl f l fun y hy => h y (List.mem_cons_of_mem _ hy)]
    simp [h x List.mem_cons_self]
def NoOb : D → Prop
  | .ob _ => False
  | _ => True
def isIntD : D → Bool
  | .int _ => true
  | _ => false
def withinD (d : D) (lo hi : Int) : Bool := match d with
  | .int i => decide (lo ≤ i) && decide (i ≤ hi)
  | _ => false
def S_is_integer : ARC := fun ds P => ∃ d, ds = [d] ∧ NoOb d ∧ P (.pu (.bl (isIntD d)))
def S_is_within : ARC := fun ds P => ∃ d lo hi, ds = [d, .int lo, .int hi] ∧ NoOb d ∧ P (.pu (.bl (withinD d lo hi)))
def S__law_is_int : ARC := S_is_within
/-- the draws of a cell: c of them are done -/
def Pot (c : Nat) (xs : List D) : Prop := ∃ a b k : Int, xs = [.int a, .int b, .int k] ∧ 0 ≤ a ∧ 0 ≤ b ∧ b < 2305843009213693921 ∧ 0 ≤ k ∧ k ≤ c
theorem Pot.mono {c d : Nat} {xs : List D} (h : Pot c xs) (l : c ≤ d) : Pot d xs := by
  obtain ⟨a, b, k, h1, h2, h3, h4, h5, h6⟩ := h
  exact ⟨a, b, k, h1, h2, h3, h4, h5, by omega⟩
def S__law_take : ARM := fun xs ds P => ∃ (n : Int) (c : Nat), ds = [.int n] ∧ 0 < n ∧ n < 1208925819614629174706176 ∧ c < 1000000 ∧ Pot c xs ∧ ∀ (j : Int) xs', 0 ≤ j → j < n → Pot (c + 1) xs' → P (.pu (.int j)) xs'
def S__law_of : ARM := fun xs ds P => ∃ (es : List D) (c : Nat), (ds = [.lst es] ∨ ds = [.tup es]) ∧ es ≠ [] ∧ es.length < 1000000 ∧ c < 1000000 ∧ Pot c xs ∧ ∀ e xs', e ∈ es → Pot (c + 1) xs' → P (.pu e) xs'
def S__law_pot : ARC := fun ds P => ∃ (ns : List Int) (i : Int), ds = [.scr (ns.map D.int), .int i] ∧ 0 ≤ i ∧ i ≤ 100 ∧ ns.length ≤ 63 ∧ ∀ p xs, Pot 0 xs → P (.ow p xs)
def S__law_cells : ARC := fun ds P => ∃ (ns : List Int) (m : Int), ds = [.scr (ns.map D.int), .int m] ∧ 1 ≤ m ∧ m ≤ 100 ∧ ns.length ≤ 63 ∧ ∀ (p : Addr) (k : Nat), (k : Int) ≤ m → P (.ow p (rngD 0 k))
theorem atI_in {ds : List D} {i : Int} (h0 : 0 ≤ i) (h1 : i < ds.length) : ∃ d, atI ds i = some d ∧ ds[i.toNat]? = some d ∧ d ∈ ds := by
  have hi : i.toNat < ds.length := by omega
  refine ⟨ds[i.toNat], ?_, List.getElem?_eq_getElem hi, List.getElem_mem hi⟩
  unfold atI ixN
  rw [if_pos h0, if_pos h1]
  exact List.getElem?_eq_getElem hi
theorem at5 (a b c d e : Int) (i : Int) (h0 : 0 ≤ i) (h1 : i < 5) : ∃ p, atI [D.int a, D.int b, D.int c, D.int d, D.int e] i = some (.int p) ∧ (p = a ∨ p = b ∨ p = c ∨ p = d ∨ p = e) := by
  rcases (show i = 0 ∨ i = 1 ∨ i = 2 ∨ i = 3 ∨ i = 4 by omega) with rfl | rfl | rfl | rfl | rfl
  · exact ⟨a, rfl, .inl rfl⟩
  · exact ⟨b, rfl, .inr (.inl rfl)⟩
  · exact ⟨c, rfl, .inr (.inr (.inl rfl))⟩
  · exact ⟨d, rfl, .inr (.inr (.inr (.inl rfl)))⟩
  · exact ⟨e, rfl, .inr (.inr (.inr (.inr rfl)))⟩
theorem cmul_l {i j : Int} (h0 : 0 ≤ i) (h1 : i < 18446744073709551616) : CMul i j := .inl ⟨by omega, by omega⟩
theorem cmul_r {i j : Int} (h0 : 0 ≤ j) (h1 : j < 18446744073709551616) : CMul i j := .inr ⟨by omega, by omega⟩
theorem cdiv {i j : Int} (h0 : 0 < j) (h1 : j < 1073741824) : CDiv i j := ⟨h0, h1⟩
theorem cpow3 {i : Int} (h0 : 0 ≤ i) (h1 : i < 18446744073709551616) : CPow i 3 := ⟨by decide, by decide, by omega⟩
theorem mul_le {a b A B : Int} (a0 : 0 ≤ a) (b0 : 0 ≤ b) (ha : a ≤ A) (hb : b ≤ B) : 0 ≤ a * b ∧ a * b ≤ A * B := ⟨Int.mul_nonneg a0 b0, Int.mul_le_mul ha hb b0 (Int.le_trans a0 ha)⟩
theorem cdivW {i j : Int} (h0 : 0 < j) (h1 : j < 1208925819614629174706176) : CDivW i j := by
  refine ⟨h0, ?_⟩
  have hz : j.natAbs ≠ 0 := by omega
  exact (Nat.log2_lt hz).mpr (Nat.lt_of_lt_of_le (show j.natAbs < 2 ^ 80 by omega) (Nat.pow_le_pow_right (by decide) (by decide)))
theorem own_nn (x m : Int) {c : Prop} [Decidable c] (hm : m ≠ 0) : 0 ≤ x % m * (if c then 1 else 0) := Int.mul_nonneg (Int.emod_nonneg _ hm) (by split <;> decide)
theorem cpw : CPowW (10 ^ Int.toNat 60) 5 := by
  unfold CPowW
  decide +kernel
theorem big_pos : (0 : Int) < (10 ^ Int.toNat 60) ^ Int.toNat 5 := by decide +kernel
theorem lastI (xs : List D) (h : xs ≠ []) : ∃ d, atI xs (-1) = some d ∧ xs[xs.length - 1]? = some d := by
  have hp : 0 < xs.length := List.length_pos_iff.mpr h
  refine ⟨xs[xs.length - 1]'(by omega), ?_, List.getElem?_eq_getElem (by omega)⟩
  unfold atI ixN
  rw [if_neg (by decide), if_pos (by omega)]
  show xs[(-1 + (xs.length : Int)).toNat]? = _
  rw [show (-1 + (xs.length : Int)).toNat = xs.length - 1 by omega]
  exact List.getElem?_eq_getElem (by omega)
abbrev tupI (bs : List Int) : D := .tup (bs.map D.int)
abbrev lstI (bs : List Int) : D := .lst (bs.map D.int)
def S__law_right : ARM := fun xs ds P => ds = [] ∧ Pot 0 xs ∧ ∀ xs', P (.pu (.bl true)) xs'
abbrev S_law : ARC := SLaw
end DL

namespace DL
open PySem L2 StX
/-! ### [a, *b] -/
def aStar (a : AE) (r : AA) : AA := fun s P => a s fun r1 s1 => match seqD r1.d with
  | some xs => r s1 fun ds s2 => P (xs ++ ds) s2
  | none => False
theorem sim_star {K : PySem.W.Frag} {te : TE} {tr : TA} {a : AE} {ar : AA} (ha : Sim K te a) (hr : SimA K tr ar) : SimA K (tStar K te tr) (aStar a ar) := fun s P q σ F H ok Q k => by
  refine ha.d q ok fun r1 s1 v1 F1 H1 q1 st1 d1 => ?_
  cases e : seqD r1.d with
  | none =>
    rw [e] at q1
    exact q1.elim
  | some xs =>
    rw [e] at q1
    obtain ⟨b, ys, rfl, g1, g2⟩ := seqD_ok e d1
    refine ⟨b, ys, rfl, ?_, ?_⟩
    · rcases g1 with g1 | g1
      · exact .inr (Same.seq st1.st.le g1)
      · exact .inl (Same.sqt st1.st.le g1)
    · refine hr s1 _ q1 σ F1 H1 st1.st _ fun ds s2 vs F2 H2 q2 st2 d2 => ?_
      exact k (xs ++ ds) s2 (ys ++ vs) F2 H2 q2 (st1.trans st2) ((DqA.mono st2.f _ _ g2).append d2)
theorem da_star {X : Cx} {K : PySem.W.Frag} (hK : X.K = K := by rfl) {e : Expr} {es : List Expr} {te : TE} {tr : TA} {a : AE} {ar : AA} {p : Pos} (ha : DE X e te a) (hr : DA X es tr ar) (hs : starEach (.Starred e p :: es) X.env = (true, eval e X.env) :: starEach es X.env := by rfl) : DA X (.Starred e p :: es) (tStar K te tr) (aStar a ar) := by
  subst hK
  exact ⟨pa_star ha.pe hr.pe hs, sim_star ha.sm hr.sm⟩
/-! ### x.extend(e) -/
def aExt (i : Nat) (a : AE) : AS := fun A s => match s[i]? with
  | some (.ow _ _) => a s fun r s1 => match r.d, s1[i]? with
    | .lst ys, some (.ow p xs) => xs.length + ys.length < 100000 ∧ A.nx (s1.set i (.ow p (xs ++ ys)))
    | _, _ => False
  | _ => False
theorem sims_ext {K : PySem.W.Frag} {te : TE} {a : AE} {i : Nat} (h : Sim K te a) : SimS K (tDrop (tBM K "list" rExtend (tVar i) (tCons te tNil))) (aExt i a) := fun A s q σ F H ok E kn kr kb kc => by
  unfold aExt at q
  cases e : s[i]? with
  | none =>
    rw [e] at q
    exact q.elim
  | some l =>
    rw [e] at q
    cases l with
    | no => exact q.elim
    | pu d => exact q.elim
    | ow p0 xs0 =>
      obtain ⟨o, h1, h2⟩ := ok.get e
      obtain ⟨rfl, g1, vs0, g2, g3⟩ := h2
      refine ⟨.ref p0, h1, tyV_list g2, ?_⟩
      refine h.d q ok fun r s1 v F1 H1 q1 st1 d1 => ?_
      cases e1 : r.d <;> simp only [e1] at q1
      rename_i ys
      rw [e1] at d1
      obtain ⟨b, us, rfl, u1, u2⟩ := d1
      cases e2 : s1[i]? with
      | none =>
        simp only [e2] at q1
      | some l =>
        simp only [e2] at q1
        cases l with
        | no => exact q1.elim
        | pu d => exact q1.elim
        | ow p xs =>
          simp only at q1
          obtain ⟨q1, q2⟩ := q1
          obtain ⟨o, z1, z2⟩ := st1.st.get e2
          obtain ⟨z3, y1, vs, y2, y3⟩ := z2
          rw [h1] at z1
          cases z1
          cases z3
          refine ⟨_, b, vs, us, rfl, rfl, y2, st1.st.le _ _ u1, ?_, ?_⟩
          · rw [y3.length, u2.length]
            exact Nat.le_of_lt (sz_lt q1)
          · exact kn _ σ F1 _ q2 (st1.chg e2 (y3.append u2))
theorem s_ext {X : Cx} {te : TE} {a : AE} {ea : Expr} {i : Nat} {x : Str} {p2 apos cpos pos : Pos} (he : DE X ea te a) (hv : DE X (.Name x p2) (tVar i) (aVar i)) (hbase : attributeBase (.Name x p2) "extend" X.env (eval (.Name x p2) X.env) = eval (.Name x p2) X.env := by rfl)
    (hfew : ((backTo cpos (starEach (ea :: []) X.env)).all (fun x => !x.1) && (backToKw cpos (keywordEach [] X.env)).all (fun x => x.1.isSome) && decide ((ea :: []).length + ([] : List Keyword).length + (if ([] : List Keyword).isEmpty then 0 else 1) < 30)) = true := by rfl)
    (hline : (apos.endLine == cpos.line) = true := by rfl) (hs : starEach (ea :: []) X.env = (false, eval ea X.env) :: starEach [] X.env := by rfl) (hplain : (backTo cpos (starEach [] X.env)).any (·.1) = false := by rfl)
    (hsw : swapsWith (.Call (.Attribute (.Name x p2) "extend" apos) [ea] [] cpos) none pos.line X.env = pure false := by rfl) : DS X (.Expr (.Call (.Attribute (.Name x p2) "extend" apos) [ea] [] cpos) pos) (tDrop (tBM X.K "list" rExtend (tVar i) (tCons te tNil))) (aExt i a) :=
  ⟨ps_expr (pe_bm PySem.F.plainAttrs_list PySem.F.slot_list_extend PySem.F.type_list_extend mt_extend hv.pe (pa_cons he.pe pa_nil hs) hbase hfew hline hs hplain) hsw, sims_ext he.sm⟩
/-! ### a, b, c = x, y, z -/
def aPar3 (i j l : Nat) (a b c : AE) : AS := fun A s => a s fun r1 s1 => b s1 fun r2 s2 => c s2 fun r3 s3 => A.nx (((s3.set i (.pu r1.d)).set j (.pu r2.d)).set l (.pu r3.d))
theorem s_par3 {X : Cx} {i j l : Nat} {x y z : Str} {px py pz pt pos : Pos} {kt k2 : Nat} {pt2 : Pos} {ea eb ec : Expr} {ta tb tc : TE} {aa ab ac : AE} (hc : X.calm = true) (hN : X.N.Nodup) (ha : DE X ea ta aa) (hb : DE X eb tb ab) (hd : DE X ec tc ac) (hij : i ≠ j) (hil : i ≠ l) (hjl : j ≠ l)
    (hw : swappedStores [.Tuple [.Name x px, .Name y py, .Name z pz] kt pt] (.Tuple [ea, eb, ec] k2 pt2) X.env = pure (some [x, y, z])) (hi : X.N[i]? = some x := by rfl) (hj : X.N[j]? = some y := by rfl) (hl : X.N[l]? = some z := by rfl)
    (hx : X.env.scope.names.lookup x = some .local := by rfl) (hy : X.env.scope.names.lookup y = some .local := by rfl) (hz : X.env.scope.names.lookup z = some .local := by rfl)
    (hs : swapsWithSole [.Tuple [.Name x px, .Name y py, .Name z pz] kt pt] (.Tuple [ea, eb, ec] k2 pt2) pos.line X.env = pure false := by rfl)
    (he : starEach (ea :: [eb, ec]) X.env = (false, eval ea X.env) :: starEach [eb, ec] X.env := by rfl) (he2 : starEach (eb :: [ec]) X.env = (false, eval eb X.env) :: starEach [ec] X.env := by rfl) (he3 : starEach [ec] X.env = (false, eval ec X.env) :: starEach [] X.env := by rfl) :
    DS X (.Assign [.Tuple [.Name x px, .Name y py, .Name z pz] kt pt] (.Tuple [ea, eb, ec] k2 pt2) pos) (tPar3 i j l (tCons ta (tCons tb (tCons tc tNil)))) (aPar3 i j l aa ab ac) :=
  ⟨ps_par3 hc hN hi hj hl hij hil hjl hx hy hz (pa_cons ha.pe (pa_cons hb.pe (pa_cons hd.pe pa_nil he3) he2) he) hw hs, fun A s q σ F H ok E kn kr kb kc => by
    refine ha.sm.d q ok fun r1 s1 v1 F1 H1 q1 st1 d1 => ?_
    refine hb.sm.d q1 st1.st fun r2 s2 v2 F2 H2 q2 st2 d2 => ?_
    refine hd.sm.d q2 st2.st fun r3 s3 v3 F3 H3 q3 st3 d3 => ?_
    have st := (st1.trans st2).trans st3
    refine ⟨v1, v2, v3, rfl, kn _ _ F3 H3 q3 (((st.put (r := .pu r1.d) (.pu (Dq.mono (st2.f.trans st3.f) _ _ d1))).put (r := .pu r2.d) (.pu (Dq.mono st3.f _ _ d2))).put (r := .pu r3.d) (.pu d3))⟩⟩
/-! ### tuples of ints in order -/
def aLtT : AR2 := fun d e P => match d, e with
  | .tup xs, .tup ys => match intsD xs, intsD ys with
    | some ns, some ms => P (.pu (.bl (HT.lexLt ns ms)))
    | _, _ => False
  | _, _ => False
theorem rd_ltT {K : PySem.W.Frag} : RD K (rLtT K) aLtT := fun d e P q F H x y le dx dy Q k => by
  unfold aLtT at q
  split at q
  · rename_i xs ys
    cases e1 : intsD xs with
    | none =>
      simp only [e1] at q
    | some ns =>
      cases e2 : intsD ys with
      | none =>
        simp only [e1, e2] at q
      | some ms =>
        simp only [e1, e2] at q
        obtain ⟨a, us, rfl, h1, h2⟩ := dx
        obtain ⟨b, ws, rfl, h3, h4⟩ := dy
        rw [intsD_eq e1] at h2
        rw [intsD_eq e2] at h4
        rw [of_dqa_ints _ _ h2] at h1
        rw [of_dqa_ints _ _ h4] at h3
        exact ⟨a, b, ns, ms, rfl, rfl, Same.sqt le h1, Same.sqt le h3, k _ _ F H q (Lf.same le _ _ rfl)⟩
  · exact q.elim
section
variable {X : Cx} {ta tb : TE} {aa ab : AE} {ea eb : Expr} {pos : Pos}
theorem units_of {A : Around} {k : Nat} (hr : Room k A) : A.units < cLine := by
  have := hr.un
  omega
theorem d_ltT {K : PySem.W.Frag} (hK : X.K = K := by rfl) {k : Nat} (hr : Room k X.A) (ha : DE X ea ta aa) (hb : DE X eb tb ab) (hm : behindInMarks .Lt eb = false := by rfl) : DE X (.Compare ea [.Lt] [eb] pos) (tOp (rLtT K) ta tb) (aOp aLtT aa ab) := by
  subst hK
  exact d_cmp (op_ltT (units_of hr)) rd_ltT ha hb hm
theorem t_ltT {K : PySem.W.Frag} (hK : X.K = K := by rfl) {k : Nat} (hr : Room k X.A) (ha : DE X ea ta aa) (hb : DE X eb tb ab) (hm : behindInMarks .Lt eb = false := by rfl) : DT X (.Compare ea [.Lt] [eb] pos) (tTest (tOp (rLtT K) ta tb)) (aTest (aOp aLtT aa ab)) := by
  subst hK
  exact t_cmp (op_ltT (units_of hr)) rd_ltT ha hb hm
end
/-- a statement that returns -/
theorem seq_out {t u : AS} {A : AEnds} {s : Ss} (h : ∀ B : Ss → Prop, t { A with nx := B } s) : aSeq t u A s := h _
/-- loops over a range of a constant, over an owned list -/
theorem for_rng1 {g : AG} {b : AS} {A : AEnds} {s : Ss} {n : Int} (h0 : -(2 ^ 62) ≤ n) (h1 : n < 2 ^ 62) (h : aForD g b A (rngD 0 n.toNat) s) : aFor (aRng1 (aCons (aC (.int n)) aNil)) g b A s := ⟨h0, h1, h⟩
theorem for_ow {g : AG} {b : AS} {A : AEnds} {s : Ss} {i : Nat} {p : Addr} {xs : List D} (e : s[i]? = some (.ow p xs)) (h : aForD g b A xs (s.set i (.pu (.lst xs)))) : aFor (aItL (aVar i)) g b A s := by
  unfold aFor aItL aVar
  rw [e]
  exact h
end DL

/-! arrivals that come round: what waits, what came (plain numbers) -/
namespace FM
open DL
def stepW (w c : Int) : Int := maxI 0 (w + c - 1)
def runW (w : Int) (cs : List Int) : Int := cs.foldl stepW w
theorem stepW_eq (w c : Int) : stepW w c = max 0 (w + c - 1) := by
  unfold stepW maxI
  split <;> omega
theorem runW_nil (w : Int) : runW w [] = w := rfl
theorem runW_cons (w c : Int) (cs : List Int) : runW w (c :: cs) = runW (stepW w c) cs := rfl
theorem runW_snoc (w c : Int) (cs : List Int) : runW w (cs ++ [c]) = stepW (runW w cs) c := by
  unfold runW
  rw [List.foldl_append]
  rfl
theorem stepW_nn (w c : Int) : 0 ≤ stepW w c := by
  rw [stepW_eq]
  omega
theorem runW_nn : ∀ (cs : List Int) (w : Int), 0 ≤ w → 0 ≤ runW w cs
  | [], w, h => h
  | c :: cs, w, h => runW_nn cs _ (stepW_nn w c)
/-- a run from w -/
theorem runW_max : ∀ (cs : List Int) (w : Int), 0 ≤ w → (∀ c ∈ cs, 0 ≤ c) → runW w cs = max (w + cs.sum - cs.length) (runW 0 cs)
  | [], w, h, hc => by
    show w = max (w + 0 - 0) 0
    omega
  | c :: cs, w, h, hc => by
    have c0 := hc c List.mem_cons_self
    have hr : ∀ c ∈ cs, 0 ≤ c := fun d hd => hc d (List.mem_cons_of_mem _ hd)
    rw [runW_cons, runW_cons, runW_max cs _ (stepW_nn w c) hr, runW_max cs _ (stepW_nn 0 c) hr, List.sum_cons, List.length_cons]
    have h0 := runW_max cs 0 (Int.le_refl _) hr
    rw [stepW_eq, stepW_eq]
    have e : ((cs.length + 1 : Nat) : Int) = (cs.length : Int) + 1 := by omega
    rw [e]
    generalize runW 0 cs = R at h0 ⊢
    generalize (cs.length : Int) = L at h0 ⊢
    generalize cs.sum = S at h0 ⊢
    omega
/-- how many come at a slot -/
def cnt (fs as : List Int) (t : Nat) : Int := if t < fs.length then fs.getD t 0 else as.getD ((t - fs.length) % as.length) 0
def wAt (fs as : List Int) : Nat → Int
  | 0 => 0
  | t + 1 => stepW (wAt fs as t) (cnt fs as t)
def cAt (fs as : List Int) : Nat → Int
  | 0 => 0
  | t + 1 => cAt fs as t + cnt fs as t
def Cs (fs : List Int) : Prop := fs.length ≤ 1000 ∧ ∀ c ∈ fs, 0 ≤ c ∧ c ≤ 4
def Arr (fs as : List Int) : Prop := Cs fs ∧ Cs as ∧ 1 ≤ as.length
section
variable {fs as : List Int}
theorem getD_mem {xs : List Int} {i : Nat} (h : i < xs.length) : xs.getD i 0 ∈ xs := by
  rw [List.getD_eq_getElem?_getD, List.getElem?_eq_getElem h]
  exact List.getElem_mem h
theorem cnt_bd (A : Arr fs as) (t : Nat) : 0 ≤ cnt fs as t ∧ cnt fs as t ≤ 4 := by
  unfold cnt
  obtain ⟨⟨_, h1⟩, ⟨_, h2⟩, h3⟩ := A
  split
  · rename_i h
    exact h1 _ (getD_mem h)
  · exact h2 _ (getD_mem (Nat.mod_lt _ h3))
theorem wAt_nn (t : Nat) : 0 ≤ wAt fs as t := by
  cases t with
  | zero => exact Int.le_refl _
  | succ t => exact stepW_nn _ _
theorem w_le_c (A : Arr fs as) : ∀ t, wAt fs as t ≤ cAt fs as t ∧ 0 ≤ cAt fs as t ∧ cAt fs as t ≤ 4 * t
  | 0 => ⟨Int.le_refl _, Int.le_refl _, Int.le_refl _⟩
  | t + 1 => by
    obtain ⟨h1, h2, h3⟩ := w_le_c A t
    obtain ⟨c0, c1⟩ := cnt_bd A t
    have w0 := wAt_nn (fs := fs) (as := as) t
    show stepW (wAt fs as t) (cnt fs as t) ≤ cAt fs as t + cnt fs as t ∧ 0 ≤ cAt fs as t + cnt fs as t ∧ cAt fs as t + cnt fs as t ≤ 4 * ((t + 1 : Nat) : Int)
    rw [stepW_eq]
    omega
theorem cnt_first {t : Nat} (h : t < fs.length) : cnt fs as t = fs.getD t 0 := if_pos h
theorem cnt_lap (k n : Nat) (h : n < as.length) : cnt fs as (fs.length + k * as.length + n) = as.getD n 0 := by
  unfold cnt
  rw [if_neg (by omega)]
  have e : fs.length + k * as.length + n - fs.length = n + k * as.length := by omega
  rw [e, Nat.add_mul_mod_self_right, Nat.mod_eq_of_lt h]
theorem take_snoc {xs : List Int} {n : Nat} (h : n < xs.length) : xs.take (n + 1) = xs.take n ++ [xs.getD n 0] := by
  rw [List.take_succ, List.getD_eq_getElem?_getD, List.getElem?_eq_getElem h]
  rfl
theorem w_first : ∀ n, n ≤ fs.length → wAt fs as n = runW 0 (fs.take n)
  | 0, _ => by
    rw [List.take_zero]
    rfl
  | n + 1, h => by
    show stepW (wAt fs as n) (cnt fs as n) = _
    rw [w_first n (by omega), take_snoc (by omega), runW_snoc, cnt_first (by omega)]
theorem w_lap (k : Nat) : ∀ n, n ≤ as.length → wAt fs as (fs.length + k * as.length + n) = runW (wAt fs as (fs.length + k * as.length)) (as.take n)
  | 0, _ => by
    rw [List.take_zero]
    rfl
  | n + 1, h => by
    show stepW (wAt fs as (fs.length + k * as.length + n)) (cnt fs as (fs.length + k * as.length + n)) = _
    rw [w_lap k n (by omega), take_snoc (by omega), runW_snoc, cnt_lap k n (by omega)]
theorem c_first : ∀ n, n ≤ fs.length → cAt fs as n = (fs.take n).sum
  | 0, _ => by
    rw [List.take_zero]
    rfl
  | n + 1, h => by
    show cAt fs as n + cnt fs as n = _
    rw [c_first n (by omega), take_snoc (by omega), cnt_first (by omega), List.sum_append, List.sum_cons, List.sum_nil, Int.add_zero]
theorem c_lap (k : Nat) : ∀ n, n ≤ as.length → cAt fs as (fs.length + k * as.length + n) = cAt fs as (fs.length + k * as.length) + (as.take n).sum
  | 0, _ => by
    rw [List.take_zero, List.sum_nil, Int.add_zero]
    rfl
  | n + 1, h => by
    show cAt fs as (fs.length + k * as.length + n) + cnt fs as (fs.length + k * as.length + n) = _
    rw [c_lap k n (by omega), take_snoc (by omega), cnt_lap k n (by omega), List.sum_append, List.sum_cons, List.sum_nil, Int.add_zero, Int.add_assoc]
theorem c_laps : ∀ k : Nat, cAt fs as (fs.length + k * as.length) = fs.sum + k * as.sum
  | 0 => by
    rw [Nat.zero_mul, Nat.add_zero, c_first _ (Nat.le_refl _), List.take_length]
    omega
  | k + 1 => by
    have e : fs.length + (k + 1) * as.length = fs.length + k * as.length + as.length := by
      rw [Nat.add_mul, Nat.one_mul]
      omega
    rw [e, c_lap k _ (Nat.le_refl _), List.take_length, c_laps k]
    have e2 : ((k + 1 : Nat) : Int) * as.sum = k * as.sum + as.sum := by
      rw [show ((k + 1 : Nat) : Int) = (k : Int) + 1 by omega, Int.add_mul, Int.one_mul]
    omega
/-- what waits as a lap begins -/
def lapW (fs as : List Int) (k : Nat) : Int := wAt fs as (fs.length + k * as.length)
def mr (as : List Int) : Int := as.sum - as.length
theorem lapW_succ (A : Arr fs as) (k : Nat) : lapW fs as (k + 1) = max (lapW fs as k + mr as) (runW 0 as) := by
  unfold lapW mr
  have e : fs.length + (k + 1) * as.length = fs.length + k * as.length + as.length := by
    rw [Nat.add_mul, Nat.one_mul]
    omega
  rw [e, w_lap k _ (Nat.le_refl _), List.take_length, runW_max as _ (wAt_nn _) (fun c hc => (A.2.1.2 c hc).1)]
  generalize runW 0 as = R
  generalize as.sum = S
  omega
theorem lapW_nn (k : Nat) : 0 ≤ lapW fs as k := wAt_nn _
theorem lapW_closed (A : Arr fs as) : ∀ k : Nat, lapW fs as (k + 1) = max (lapW fs as 0 + ((k + 1 : Nat) : Int) * mr as) (runW 0 as + max 0 ((k : Int) * mr as))
  | 0 => by
    rw [lapW_succ A 0]
    simp only [Nat.zero_add]
    rw [show ((1 : Nat) : Int) = 1 from rfl, Int.one_mul, show ((0 : Nat) : Int) = 0 from rfl, Int.zero_mul]
    generalize runW 0 as = R
    omega
  | k + 1 => by
    rw [lapW_succ A (k + 1), lapW_closed A k]
    have e1 : ((k + 1 + 1 : Nat) : Int) * mr as = (k : Int) * mr as + mr as + mr as := by
      rw [show ((k + 1 + 1 : Nat) : Int) = (k : Int) + 1 + 1 by omega, Int.add_mul, Int.add_mul, Int.one_mul]
    have e2 : ((k + 1 : Nat) : Int) * mr as = (k : Int) * mr as + mr as := by
      rw [show ((k + 1 : Nat) : Int) = (k : Int) + 1 by omega, Int.add_mul, Int.one_mul]
    rw [e1, e2]
    have s1 : 0 ≤ mr as → 0 ≤ (k : Int) * mr as := fun h => Int.mul_nonneg (Int.natCast_nonneg k) h
    have s2 : mr as ≤ 0 → (k : Int) * mr as ≤ 0 := fun h => Int.mul_nonpos_of_nonneg_of_nonpos (Int.natCast_nonneg k) h
    generalize (k : Int) * mr as = u at s1 s2 ⊢
    generalize runW 0 as = R
    generalize mr as = m at s1 s2 ⊢
    omega
/-- behind so many laps it goes on alike -/
theorem lapW_far (A : Arr fs as) (k : Nat) (hk : lapW fs as 0 ≤ k) (h1 : 1 ≤ k) : lapW fs as (k + 1) - lapW fs as k = max 0 (mr as) := by
  obtain ⟨j, rfl⟩ : ∃ j, k = j + 1 := ⟨k - 1, by omega⟩
  have hb : 0 ≤ runW 0 as := runW_nn as 0 (Int.le_refl _)
  have e1 := lapW_succ A (j + 1)
  have e0 := lapW_succ A j
  by_cases hm : 0 ≤ mr as
  · rw [e1]
    generalize runW 0 as = R at *
    omega
  · have c := lapW_closed A j
    have n1 : ((j + 1 : Nat) : Int) * mr as ≤ ((j + 1 : Nat) : Int) * (-1) := Int.mul_le_mul_of_nonneg_left (by omega) (by omega)
    have n2 : (j : Int) * mr as ≤ 0 := Int.mul_nonpos_of_nonneg_of_nonpos (Int.natCast_nonneg j) (by omega)
    generalize ((j + 1 : Nat) : Int) * mr as = u at *
    generalize (j : Int) * mr as = v at *
    generalize runW 0 as = R at *
    omega
theorem w_first_le (A : Arr fs as) : lapW fs as 0 ≤ 4 * fs.length := by
  have h := w_le_c A fs.length
  unfold lapW
  rw [Nat.zero_mul, Nat.add_zero]
  omega
theorem cAt_mono (A : Arr fs as) : ∀ (s t : Nat), s ≤ t → cAt fs as s ≤ cAt fs as t
  | s, 0, h => by
    rw [Nat.le_zero.mp h]
    exact Int.le_refl _
  | s, t + 1, h => by
    by_cases e : s = t + 1
    · rw [e]
      exact Int.le_refl _
    · have h1 := cAt_mono A s t (by omega)
      have h2 := (cnt_bd A t).1
      show _ ≤ cAt fs as t + cnt fs as t
      omega
/-- a packet's slot and place are told by its number -/
theorem packet_un (A : Arr fs as) {s t : Nat} {p q : Int} (hp : 0 ≤ p) (hp2 : p < cnt fs as s) (hq : 0 ≤ q) (hq2 : q < cnt fs as t) (e : cAt fs as s + p = cAt fs as t + q) : s = t ∧ p = q := by
  have h1 : ∀ {s t : Nat} {p q : Int}, 0 ≤ p → p < cnt fs as s → 0 ≤ q → q < cnt fs as t → cAt fs as s + p = cAt fs as t + q → ¬ s < t := fun {s t p q} hp hp2 hq hq2 e hl => by
    have h2 := cAt_mono A (s + 1) t hl
    have h3 : cAt fs as (s + 1) = cAt fs as s + cnt fs as s := rfl
    omega
  have a := h1 hp hp2 hq hq2 e
  have b := h1 hq hq2 hp hp2 e.symm
  have c : s = t := by omega
  subst c
  exact ⟨rfl, by omega⟩
end
end FM

/-! promises of the far functions -/
namespace FM
open PySem L2 DL
theorem at_int {cs : List Int} {k : Nat} (h : k < cs.length) : atI (cs.map D.int) (k : Int) = some (.int (cs.getD k 0)) := by
  rw [atI_k, List.getElem?_map, List.getElem?_eq_getElem h, List.getD_eq_getElem?_getD, List.getElem?_eq_getElem h]
  rfl
theorem cut_int (cs : List Int) (k : Nat) : cutD (cs.map D.int) none (some (k : Int)) = (cs.take k).map D.int := by
  rw [cutD_to, List.map_take]
def FarOk (fs as : List Int) (t : Nat) : Prop := t < fs.length + 18446744073709551616 * as.length
def S_are_counts : ARC := fun ds P => ∃ (cs : List Int) (l : Int), ds = [tupI cs, .int l] ∧ Cs cs ∧ l ≤ cs.length ∧ P (.pu (.bl true))
def S_check_arrivals : ARC := fun ds P => ∃ (fs as : List Int), ds = [tupI fs, tupI as] ∧ Arr fs as ∧ P (.pu .non)
def S_check_slot : ARC := fun ds P => ∃ (fs as : List Int) (t : Nat), ds = [tupI fs, tupI as, .int t] ∧ Arr fs as ∧ t ≤ 1000000000000000000 ∧ P (.pu .non)
def S_run : ARC := fun ds P => ∃ (w : Int) (cs : List Int), ds = [.int w, tupI cs] ∧ P (.pu (.int (runW w cs)))
def S_lap_waits : ARC := fun ds P => ∃ (fs as : List Int) (k : Nat), ds = [tupI fs, tupI as, .int k] ∧ Arr fs as ∧ k < 18446744073709551616 ∧ P (.pu (.int (lapW fs as k)))
def S_spot_of : ARC := fun ds P => ∃ (fs as : List Int) (t : Nat), ds = [tupI fs, tupI as, .int t] ∧ Arr fs as ∧ (t < fs.length → P (.pu (.tup [.int (-1), .int t]))) ∧ ∀ k n : Nat, t = fs.length + k * as.length + n → n < as.length → P (.pu (.tup [.int k, .int n]))
def S_count_of : ARC := fun ds P => ∃ (fs as : List Int) (t : Nat), ds = [tupI fs, tupI as, .int t] ∧ Arr fs as ∧ P (.pu (.int (cnt fs as t)))
def S_came : ARC := fun ds P => ∃ (fs as : List Int) (t : Nat), ds = [tupI fs, tupI as, .int t] ∧ Arr fs as ∧ FarOk fs as t ∧ P (.pu (.int (cAt fs as t)))
def S_waits_ahead : ARC := fun ds P => ∃ (fs as : List Int) (t : Nat), ds = [tupI fs, tupI as, .int t] ∧ Arr fs as ∧ FarOk fs as t ∧ P (.pu (.int (wAt fs as t)))
def S_came_by : ARC := fun ds P => ∃ (fs as : List Int) (t : Nat), ds = [tupI fs, tupI as, .int t] ∧ Arr fs as ∧ t ≤ 1000000000000000000 ∧ P (.pu (.int (cAt fs as t)))
def S_left_by : ARC := fun ds P => ∃ (fs as : List Int) (t : Nat), ds = [tupI fs, tupI as, .int t] ∧ Arr fs as ∧ t ≤ 1000000000000000000 ∧ P (.pu (.int (cAt fs as t - wAt fs as t)))
def S_waits_at : ARC := fun ds P => ∃ (fs as : List Int) (t : Nat), ds = [tupI fs, tupI as, .int t] ∧ Arr fs as ∧ t ≤ 1000000000000000000 ∧ P (.pu (.int (wAt fs as t)))
def S_delay_at : ARC := fun ds P => ∃ (fs as : List Int) (t : Nat) (p : Int), ds = [tupI fs, tupI as, .int t, .int p] ∧ Arr fs as ∧ t ≤ 1000000000000000000 ∧ 0 ≤ p ∧ p < cnt fs as t ∧ P (.pu (.int (wAt fs as t + p)))
def leavesD (fs as : List Int) (t : Nat) : D := if wAt fs as t + cnt fs as t = 0 then .non else .int (cAt fs as t - wAt fs as t)
def S_leaves_at : ARC := fun ds P => ∃ (fs as : List Int) (t : Nat), ds = [tupI fs, tupI as, .int t] ∧ Arr fs as ∧ t ≤ 1000000000000000000 ∧ P (.pu (leavesD fs as t))
def S_slot_among : ARC := fun ds P => ∃ (cs : List Int) (n : Int), ds = [tupI cs, .int n] ∧ 0 ≤ n ∧ n < cs.sum ∧ ∀ (k : Nat) (p : Int), k < cs.length → 0 ≤ p → p < cs.getD k 0 → n = (cs.take k).sum + p → P (.pu (.tup [.int k, .int p]))
def S_packet_at : ARC := fun ds P => ∃ (fs as : List Int) (n : Int), ds = [tupI fs, tupI as, .int n] ∧ Arr fs as ∧ 0 ≤ n ∧ n ≤ 1000000000000000000 ∧ (n < fs.sum ∨ 0 < as.sum) ∧ ∀ (t : Nat) (p : Int), FarOk fs as t → 0 ≤ p → p < cnt fs as t → n = cAt fs as t + p → P (.pu (.tup [.int t, .int p, .int (wAt fs as t + p)]))
/-- enumerate, from the left -/
def en : Nat → List D → List D
  | _, [] => []
  | k, d :: ds => .tup [.int (k : Int), d] :: en (k + 1) ds
theorem en_of : ∀ (ds : List D) (k : Nat), ((List.range' k ds.length).zip ds).map (fun p => D.tup [.int (p.1 : Nat), p.2]) = en k ds
  | [], k => rfl
  | d :: ds, k => by
    rw [List.length_cons, List.range'_succ, List.zip_cons_cons, List.map_cons, en_of ds (k + 1)]
    rfl
theorem enumD_en (ds : List D) : enumD ds = en 0 ds := by
  unfold enumD
  rw [List.range_eq_range', en_of]
theorem drop_getD {cs : List Int} {k : Nat} (h : k < cs.length) : cs.drop k = cs.getD k 0 :: cs.drop (k + 1) := by
  rw [List.getD_eq_getElem?_getD, List.getElem?_eq_getElem h]
  exact List.drop_eq_getElem_cons h
theorem sum_bd : ∀ (cs : List Int), (∀ c ∈ cs, 0 ≤ c ∧ c ≤ 4) → 0 ≤ cs.sum ∧ cs.sum ≤ 4 * cs.length
  | [], h => by simp
  | c :: cs, h => by
    have h1 := h c List.mem_cons_self
    have h2 := sum_bd cs fun d hd => h d (List.mem_cons_of_mem _ hd)
    rw [List.sum_cons, List.length_cons]
    omega
end FM

/-! promises of the far laws' own functions -/
namespace FM
open PySem L2 DL
def wList (fs as : List Int) (n : Nat) : List Int := (List.range (n + 1)).map (wAt fs as)
def rowsL (fs as : List Int) (m : Nat) : List Int := (List.range (m + 1)).map (lapW fs as)
theorem getD_rng (f : Nat → Int) {n k : Nat} (h : k ≤ n) : ((List.range (n + 1)).map f).getD k 0 = f k := by
  rw [List.getD_eq_getElem?_getD, List.getElem?_map, List.getElem?_eq_getElem (by rw [List.length_range]; omega), List.getElem_range]
  rfl
theorem at_rng (f : Nat → Int) {n k : Nat} (h : k ≤ n) : atI (((List.range (n + 1)).map f).map D.int) (k : Int) = some (.int (f k)) := by
  rw [at_int (by rw [List.length_map, List.length_range]; omega), getD_rng f h]
theorem at_rng_last (f : Nat → Int) (n : Nat) : atI (((List.range (n + 1)).map f).map D.int) (-1) = some (.int (f n)) := by
  have hne : ((List.range (n + 1)).map f).map D.int ≠ [] := by
    rw [List.range_succ]
    simp
  obtain ⟨d, e1, e2⟩ := lastI _ hne
  rw [e1]
  rw [List.length_map, List.length_map, List.length_range, List.getElem?_map, List.getElem?_map, List.getElem?_eq_getElem (by rw [List.length_range]; omega), List.getElem_range] at e2
  exact e2.symm
theorem rng_snoc (f : Nat → Int) (n : Nat) : (List.range (n + 1 + 1)).map f = (List.range (n + 1)).map f ++ [f (n + 1)] := by
  rw [List.range_succ, List.map_append]
  rfl
def Small (fs as : List Int) : Prop := Arr fs as ∧ fs.length ≤ 10 ∧ as.length ≤ 6
/-- what _law_laps tells -/
def LapsD (fs as : List Int) (d : D) : Prop := ∃ (w : Str) (L : Nat) (num : Int) (m : Nat), d = .tup [.str w, .int L, .int num, lstI (rowsL fs as m)] ∧ L ≤ m ∧ (∀ k, L ≤ k → lapW fs as (k + 1) - lapW fs as k = max 0 (mr as)) ∧
  (L = 0 ∨ lapW fs as L - lapW fs as (L - 1) ≠ max 0 (mr as)) ∧ ((0 < mr as ∧ w = "grows" ∧ num = mr as) ∨ (mr as ≤ 0 ∧ w = "round" ∧ num = lapW fs as L))
def S__law_count : ARC := S_count_of
def S__law_waits : ARC := fun ds P => ∃ (fs as : List Int) (n : Nat), ds = [tupI fs, tupI as, .int n] ∧ Arr fs as ∧ n ≤ 90000 ∧ P (.pu (lstI (wList fs as n)))
def S__law_laps : ARC := fun ds P => ∃ (fs as : List Int), ds = [tupI fs, tupI as] ∧ Small fs as ∧ ∀ d, LapsD fs as d → P (.pu d)
def S__law_far_waits : ARC := fun ds P => ∃ (fs as : List Int) (d : D) (t : Nat), ds = [tupI fs, tupI as, d, .int t] ∧ Arr fs as ∧ LapsD fs as d ∧ FarOk fs as t ∧ P (.pu (.int (wAt fs as t)))
def S__law_came : ARC := fun ds P => ∃ (fs as : List Int) (t : Nat), ds = [tupI fs, tupI as, .int t] ∧ Arr fs as ∧ FarOk fs as t ∧ P (.pu (.int (cAt fs as t)))
def S__law_is_slot_right : ARC := fun ds P => ∃ (fs as : List Int) (d : D) (t : Nat), ds = [tupI fs, tupI as, d, .int t] ∧ Arr fs as ∧ LapsD fs as d ∧ t ≤ 1000000000000000000 ∧ P (.pu (.bl true))
def S__law_arrivals : ARM := fun xs ds P => ∃ c : Nat, ds = [] ∧ Pot c xs ∧ c ≤ 1000 ∧ ∀ fs as xs', Small fs as → Pot (c + 200) xs' → P (.pu (.tup [tupI fs, tupI as])) xs'
/-- along the laps that go alike -/
theorem lapW_along {fs as : List Int} {L : Nat} (h : ∀ k, L ≤ k → lapW fs as (k + 1) - lapW fs as k = max 0 (mr as)) : ∀ j : Nat, lapW fs as (L + j) = lapW fs as L + j * max 0 (mr as)
  | 0 => by
    rw [Nat.add_zero, show ((0 : Nat) : Int) = 0 from rfl, Int.zero_mul, Int.add_zero]
  | j + 1 => by
    have h1 := h (L + j) (by omega)
    have h2 := lapW_along h j
    rw [show L + (j + 1) = L + j + 1 by omega, show ((j + 1 : Nat) : Int) = (j : Int) + 1 by omega, Int.add_mul, Int.one_mul]
    omega
theorem run_loopW {as : List Int} (w : Int) {n : Nat} (h : n < as.length) : stepW (runW w (as.take n)) (as.getD n 0) = runW w (as.take (n + 1)) := by
  rw [take_snoc h, runW_snoc]
theorem shI {k : Nat} {i : Int} (h : -(10 ^ 60) < i ∧ i < 10 ^ 60) : shD k (.int i) := by
  simp only [shD]
  exact h
theorem sh18 {fs as : List Int} {t : Nat} (hA : Arr fs as) (h : t ≤ 1000000000000000000) : 0 ≤ wAt fs as t ∧ wAt fs as t ≤ cAt fs as t ∧ 0 ≤ cAt fs as t ∧ cAt fs as t ≤ 4000000000000000000 := by
  have h1 := wAt_nn (fs := fs) (as := as) t
  have h2 := w_le_c hA t
  omega
theorem shJ {k : Nat} {i : Int} (h0 : -1000000000000000000000000000000 ≤ i) (h1 : i ≤ 1000000000000000000000000000000) : shD k (.int i) := by
  simp only [shD]
  omega
theorem le_sum : ∀ (cs : List Int), (∀ c ∈ cs, 0 ≤ c) → ∀ c ∈ cs, c ≤ cs.sum
  | [], h, c, hc => by cases hc
  | d :: cs, h, c, hc => by
    have h0 := h d List.mem_cons_self
    have hr : ∀ c ∈ cs, 0 ≤ c := fun e he => h e (List.mem_cons_of_mem _ he)
    have hs : 0 ≤ cs.sum := by
      clear hc
      induction cs with
      | nil => simp
      | cons e cs ih =>
        have h1 := hr e List.mem_cons_self
        have h2 := ih (fun x hx => by
          rcases List.mem_cons.mp hx with e | hx
          · rw [e]
            exact h0
          · exact hr x (List.mem_cons_of_mem _ hx)) fun x hx => hr x (List.mem_cons_of_mem _ hx)
        rw [List.sum_cons]
        omega
    rw [List.sum_cons]
    rcases List.mem_cons.mp hc with e | hc
    · rw [e]
      omega
    · have := le_sum cs hr c hc
      omega
theorem packet_ok {fs as : List Int} (hA : Arr fs as) {t : Nat} {p : Int} (hp : 0 ≤ p) (hp2 : p < cnt fs as t) : cAt fs as t + p < fs.sum ∨ 0 < as.sum := by
  by_cases c : t < fs.length
  · left
    have h1 := cAt_mono hA (t + 1) fs.length c
    have h2 : cAt fs as (t + 1) = cAt fs as t + cnt fs as t := rfl
    have h3 := c_first (fs := fs) (as := as) fs.length (Nat.le_refl _)
    rw [List.take_length] at h3
    omega
  · right
    have h1 : cnt fs as t = as.getD ((t - fs.length) % as.length) 0 := if_neg c
    have h2 := le_sum as (fun c hc => (hA.2.1.2 c hc).1) _ (getD_mem (Nat.mod_lt (t - fs.length) hA.2.2))
    omega
end FM

/-! laps: from when on they go alike; the greatest delay -/
namespace FM
open PySem L2 DL
def LapsP (fs as : List Int) (w : Str) (L : Nat) (num : Int) : Prop := (∀ k, L ≤ k → lapW fs as (k + 1) - lapW fs as k = max 0 (mr as)) ∧
  (L = 0 ∨ lapW fs as L - lapW fs as (L - 1) ≠ max 0 (mr as)) ∧ ((0 < mr as ∧ w = "grows" ∧ num = mr as) ∨ (mr as ≤ 0 ∧ w = "round" ∧ num = lapW fs as L))
theorem LapsP.un {fs as : List Int} {w w' : Str} {L L' : Nat} {num num' : Int} (h : LapsP fs as w L num) (h' : LapsP fs as w' L' num') : w = w' ∧ L = L' ∧ num = num' := by
  have one : ∀ {w w' : Str} {L L' : Nat} {num num' : Int}, LapsP fs as w L num → LapsP fs as w' L' num' → ¬ L < L' := fun {w w' L L' num num'} h h' hl => by
    rcases h'.2.1 with z | z
    · omega
    · refine z ?_
      have := h.1 (L' - 1) (by omega)
      rw [show L' - 1 + 1 = L' by omega] at this
      exact this
  have a := one h h'
  have b := one h' h
  have e : L = L' := by omega
  subst e
  rcases h.2.2 with ⟨h1, h2, h3⟩ | ⟨h1, h2, h3⟩ <;> rcases h'.2.2 with ⟨g1, g2, g3⟩ | ⟨g1, g2, g3⟩
  · exact ⟨by rw [h2, g2], rfl, by rw [h3, g3]⟩
  · omega
  · omega
  · exact ⟨by rw [h2, g2], rfl, by rw [h3, g3]⟩
section
variable {fs as : List Int}
theorem lapW_ge (A : Arr fs as) (k : Nat) : runW 0 as ≤ lapW fs as (k + 1) := by
  rw [lapW_succ A k]
  omega
theorem dl_pos (A : Arr fs as) (h : 0 ≤ mr as) (k : Nat) : lapW fs as (k + 1 + 1) - lapW fs as (k + 1) = mr as := by
  have h1 := lapW_ge A k
  rw [lapW_succ A (k + 1)]
  generalize runW 0 as = R at *
  omega
theorem lapW_neg (A : Arr fs as) (h : mr as ≤ 0) (k : Nat) : lapW fs as (k + 1) = max (lapW fs as 0 + ((k + 1 : Nat) : Int) * mr as) (runW 0 as) := by
  rw [lapW_closed A k]
  have s2 : (k : Int) * mr as ≤ 0 := Int.mul_nonpos_of_nonneg_of_nonpos (Int.natCast_nonneg k) h
  generalize (k : Int) * mr as = u at s2 ⊢
  generalize runW 0 as = R
  omega
theorem km_neg {m : Int} (h : m ≤ 0) (k : Nat) : ((k + 1 : Nat) : Int) * m ≤ m := by
  have h1 : ((k + 1 : Nat) : Int) * m ≤ 1 * m := Int.mul_le_mul_of_nonpos_right (by omega) h
  rw [Int.one_mul] at h1
  exact h1
/-- the laps of arrivals, by cases -/
theorem laps_grow (A : Arr fs as) (h : 0 < mr as) : LapsP fs as "grows" (if runW 0 as ≤ lapW fs as 0 + mr as then 0 else 1) (mr as) := by
  have e : max 0 (mr as) = mr as := by omega
  have e1 := lapW_succ A 0
  refine ⟨fun k hk => ?_, ?_, .inl ⟨h, rfl, rfl⟩⟩
  · rw [e]
    cases k with
    | succ k => exact dl_pos A (by omega) k
    | zero =>
      rw [e1]
      split at hk
      · generalize runW 0 as = R at *
        omega
      · omega
  · rw [e]
    split
    · exact .inl rfl
    · right
      rename_i c
      have e2 : lapW fs as 1 = max (lapW fs as 0 + mr as) (runW 0 as) := e1
      show lapW fs as 1 - lapW fs as 0 ≠ _
      generalize runW 0 as = R at *
      omega
theorem laps_low (A : Arr fs as) (h : mr as ≤ 0) (hl : lapW fs as 0 ≤ runW 0 as) : LapsP fs as "round" (if lapW fs as 0 = runW 0 as then 0 else 1) (runW 0 as) := by
  have e : max 0 (mr as) = 0 := by omega
  have all : ∀ k, lapW fs as (k + 1) = runW 0 as := fun k => by
    rw [lapW_neg A h k]
    have := km_neg h k
    generalize ((k + 1 : Nat) : Int) * mr as = u at *
    generalize runW 0 as = R at *
    omega
  refine ⟨fun k hk => ?_, ?_, .inr ⟨h, rfl, ?_⟩⟩
  · rw [e]
    cases k with
    | succ k => rw [all, all]; omega
    | zero =>
      rw [all]
      split at hk
      · omega
      · omega
  · rw [e]
    split
    · exact .inl rfl
    · right
      have := all 0
      show lapW fs as (0 + 1) - lapW fs as 0 ≠ 0
      omega
  · split
    · rename_i c
      exact c.symm
    · exact (all 0).symm
theorem laps_flat (A : Arr fs as) (h : mr as = 0) (hl : runW 0 as ≤ lapW fs as 0) : LapsP fs as "round" 0 (lapW fs as 0) := by
  have e : max 0 (mr as) = 0 := by omega
  refine ⟨fun k _ => ?_, .inl rfl, .inr ⟨by omega, rfl, rfl⟩⟩
  rw [e]
  cases k with
  | succ k =>
    have := dl_pos A (by omega) k
    omega
  | zero =>
    rw [lapW_succ A 0, h]
    generalize runW 0 as = R at *
    omega
theorem laps_fall (A : Arr fs as) (h : mr as < 0) (hl : runW 0 as < lapW fs as 0) : LapsP fs as "round" (((lapW fs as 0 - runW 0 as - mr as - 1) / (-mr as)).toNat) (runW 0 as) := by
  have e : max 0 (mr as) = 0 := by omega
  have form : ∀ k : Nat, lapW fs as k = max (lapW fs as 0 + (k : Int) * mr as) (runW 0 as) := fun k => by
    cases k with
    | succ k => exact lapW_neg A (by omega) k
    | zero =>
      rw [show ((0 : Nat) : Int) = 0 from rfl, Int.zero_mul]
      generalize runW 0 as = R at *
      omega
  obtain ⟨u, hu⟩ : ∃ u, u = -mr as := ⟨_, rfl⟩
  obtain ⟨Dd, hD⟩ : ∃ Dd, Dd = lapW fs as 0 - runW 0 as := ⟨_, rfl⟩
  have q0 : 0 ≤ (Dd + u - 1) / u := Int.ediv_nonneg (by omega) (by omega)
  have dm := Int.mul_ediv_add_emod (Dd + u - 1) u
  have r0 := Int.emod_nonneg (Dd + u - 1) (show u ≠ 0 by omega)
  have r1 := Int.emod_lt_of_pos (Dd + u - 1) (show 0 < u by omega)
  obtain ⟨L, hL⟩ := Int.eq_ofNat_of_zero_le q0
  have eL : (lapW fs as 0 - runW 0 as - mr as - 1) / (-mr as) = (L : Int) := by
    rw [← hu, ← hL, hD]
    have : lapW fs as 0 - runW 0 as - mr as - 1 = lapW fs as 0 - runW 0 as + u - 1 := by omega
    rw [this]
  rw [eL, Int.toNat_natCast]
  rw [hL] at dm
  have k1 : ∀ k : Nat, (k : Int) * mr as = -((k : Int) * u) := fun k => by
    rw [hu, Int.mul_neg, Int.neg_neg]
  have low : ∀ k : Nat, L ≤ k → lapW fs as k = runW 0 as := fun k hk => by
    rw [form k, k1 k]
    have h1 : (L : Int) * u ≤ (k : Int) * u := Int.mul_le_mul_of_nonneg_right (by omega) (by omega)
    rw [Int.mul_comm u] at dm
    generalize (k : Int) * u = x at *
    generalize (L : Int) * u = y at *
    generalize runW 0 as = R at *
    omega
  have Lp : 1 ≤ L := by
    cases L with
    | zero =>
      rw [show ((0 : Nat) : Int) = 0 from rfl, Int.mul_zero] at dm
      generalize runW 0 as = R at *
      omega
    | succ L => omega
  refine ⟨fun k hk => by rw [e, low k hk, low (k + 1) (by omega)]; omega, .inr ?_, .inr ⟨by omega, rfl, (low L (Nat.le_refl _)).symm⟩⟩
  rw [e, low L (Nat.le_refl _), form (L - 1), k1]
  obtain ⟨j, rfl⟩ : ∃ j, L = j + 1 := ⟨L - 1, by omega⟩
  rw [Nat.add_sub_cancel]
  have e3 : u * ((j + 1 : Nat) : Int) = (j : Int) * u + u := by
    rw [show ((j + 1 : Nat) : Int) = (j : Int) + 1 by omega, Int.mul_add, Int.mul_one, Int.mul_comm]
  rw [e3] at dm
  generalize (j : Int) * u = x at *
  generalize runW 0 as = R at *
  omega
/-! twice the laps -/
theorem mod2 (x : Nat) {l : Nat} (h : 0 < l) : x % (l + l) = x % l ∨ x % (l + l) = x % l + l := by
  have h1 := Nat.mod_lt x (show 0 < l + l by omega)
  have h2 : x % (l + l) % l = x % l := by
    rw [show l + l = 2 * l by omega]
    exact Nat.mod_mul_left_mod x 2 l
  by_cases c : x % (l + l) < l
  · left
    rw [← h2, Nat.mod_eq_of_lt c]
  · right
    have e : x % (l + l) = (x % (l + l) - l) + l := by omega
    rw [e, Nat.add_mod_right, Nat.mod_eq_of_lt (by omega)] at h2
    omega
theorem getD_dbl (x : Nat) (h : 0 < as.length) : (as ++ as).getD (x % (as ++ as).length) 0 = as.getD (x % as.length) 0 := by
  rw [List.length_append]
  have hm := Nat.mod_lt x h
  rcases mod2 x h with e | e
  · rw [e, List.getD_eq_getElem?_getD, List.getD_eq_getElem?_getD, List.getElem?_append_left hm]
  · rw [e, List.getD_eq_getElem?_getD, List.getD_eq_getElem?_getD, List.getElem?_append_right (by omega), Nat.add_sub_cancel]
theorem cnt_dbl (A : Arr fs as) (t : Nat) : cnt fs (as ++ as) t = cnt fs as t := by
  unfold cnt
  by_cases c : t < fs.length
  · rw [if_pos c, if_pos c]
  · rw [if_neg c, if_neg c]
    exact getD_dbl _ A.2.2
theorem cnt_on (A : Arr fs as) (t : Nat) : cnt (fs ++ as) (as ++ as) t = cnt fs as t := by
  unfold cnt
  rw [List.length_append]
  by_cases c : t < fs.length
  · rw [if_pos c, if_pos (by omega), List.getD_eq_getElem?_getD, List.getD_eq_getElem?_getD, List.getElem?_append_left c]
  · rw [if_neg c]
    by_cases c2 : t < fs.length + as.length
    · rw [if_pos c2, List.getD_eq_getElem?_getD, List.getD_eq_getElem?_getD, List.getElem?_append_right (by omega), Nat.mod_eq_of_lt (by omega)]
    · rw [if_neg c2, getD_dbl _ A.2.2]
      have e : t - fs.length = t - (fs.length + as.length) + as.length := by omega
      rw [e, Nat.add_mod_right]
theorem wAt_cong {gs bs : List Int} (h : ∀ t, cnt gs bs t = cnt fs as t) : ∀ t, wAt gs bs t = wAt fs as t
  | 0 => rfl
  | t + 1 => by
    show stepW (wAt gs bs t) (cnt gs bs t) = stepW (wAt fs as t) (cnt fs as t)
    rw [wAt_cong h t, h t]
theorem lapW_dbl (A : Arr fs as) (k : Nat) : lapW fs (as ++ as) k = lapW fs as (2 * k) := by
  unfold lapW
  rw [wAt_cong (cnt_dbl A), List.length_append]
  have : k * (as.length + as.length) = 2 * k * as.length := by
    rw [← Nat.two_mul, ← Nat.mul_assoc, Nat.mul_comm k 2]
  rw [this]
theorem mr_dbl : mr (as ++ as) = mr as + mr as := by
  unfold mr
  rw [List.sum_append, List.length_append]
  omega
theorem dl_sign (A : Arr fs as) : (∀ k, max 0 (mr as) ≤ lapW fs as (k + 1) - lapW fs as k) ∨ (∀ k, lapW fs as (k + 1) - lapW fs as k ≤ max 0 (mr as)) := by
  by_cases h : 0 ≤ mr as
  · left
    intro k
    rw [lapW_succ A k]
    generalize runW 0 as = R
    omega
  · have e : max 0 (mr as) = 0 := by omega
    rw [e]
    by_cases c : lapW fs as 0 ≤ runW 0 as
    · left
      intro k
      have h1 := (laps_low A (by omega) c).1
      cases k with
      | zero =>
        rw [lapW_succ A 0]
        generalize runW 0 as = R at *
        omega
      | succ k =>
        have := h1 (k + 1) (by split <;> omega)
        omega
    · right
      intro k
      have hb : runW 0 as ≤ lapW fs as k := by
        cases k with
        | zero => omega
        | succ k => exact lapW_ge A k
      rw [lapW_succ A k]
      generalize runW 0 as = R at *
      omega
theorem laps_dbl (A : Arr fs as) {w : Str} {L : Nat} {num : Int} (h : LapsP fs as w L num) : LapsP fs (as ++ as) w ((L + 1) / 2) (if 0 < mr as then 2 * num else num) := by
  obtain ⟨h1, h2, h3⟩ := h
  have em : max 0 (mr (as ++ as)) = max 0 (mr as) + max 0 (mr as) := by
    rw [mr_dbl]
    omega
  have d2 : ∀ k, lapW fs (as ++ as) (k + 1) - lapW fs (as ++ as) k = (lapW fs as (2 * k + 1 + 1) - lapW fs as (2 * k + 1)) + (lapW fs as (2 * k + 1) - lapW fs as (2 * k)) := fun k => by
    rw [lapW_dbl A, lapW_dbl A, show 2 * (k + 1) = 2 * k + 1 + 1 by omega]
    omega
  refine ⟨fun k hk => ?_, ?_, ?_⟩
  · rw [d2, em, h1 (2 * k + 1) (by omega), h1 (2 * k) (by omega)]
  · by_cases c : L = 0
    · left
      rw [c]
    · right
      have h2 : lapW fs as L - lapW fs as (L - 1) ≠ max 0 (mr as) := h2.resolve_left c
      obtain ⟨k, hk⟩ : ∃ k, (L + 1) / 2 = k + 1 := ⟨(L + 1) / 2 - 1, by omega⟩
      rw [hk, Nat.add_sub_cancel, d2, em]
      have hc : L = 2 * k + 1 ∨ L = 2 * k + 1 + 1 := by omega
      rcases hc with rfl | rfl
      · rw [Nat.add_sub_cancel] at h2
        rcases dl_sign A with s | s
        · have s1 := s (2 * k)
          have s2 := s (2 * k + 1)
          omega
        · have s1 := s (2 * k)
          have s2 := s (2 * k + 1)
          omega
      · rw [Nat.add_sub_cancel] at h2
        rcases dl_sign A with s | s
        · have s1 := s (2 * k)
          have s2 := s (2 * k + 1)
          omega
        · have s1 := s (2 * k)
          have s2 := s (2 * k + 1)
          omega
  · rcases h3 with ⟨g1, g2, g3⟩ | ⟨g1, g2, g3⟩
    · left
      rw [if_pos g1, mr_dbl]
      exact ⟨by omega, g2, by omega⟩
    · right
      rw [if_neg (by omega), mr_dbl, lapW_dbl A]
      refine ⟨by omega, g2, ?_⟩
      rw [g3]
      rcases (show 2 * ((L + 1) / 2) = L ∨ 2 * ((L + 1) / 2) = L + 1 by omega) with e | e
      · rw [e]
      · rw [e]
        have := h1 L (Nat.le_refl _)
        omega
theorem laps_le (A : Arr fs as) {w : Str} {L : Nat} {num : Int} (h : LapsP fs as w L num) : L ≤ 4001 := by
  rcases h.2.1 with e | e
  · omega
  · refine Nat.le_of_not_lt fun hl => e ?_
    have fl := w_first_le A
    have := A.1.1
    have z := lapW_far A (L - 1) (by omega) (by omega)
    rw [show L - 1 + 1 = L by omega] at z
    exact z
end
end FM

/-! the greatest delay -/
namespace FM
open PySem L2 DL
def mostF : Int → Int → List Int → Int
  | f, _, [] => f
  | f, w, c :: cs => mostF (if 0 < c then maxI f (w + c - 1) else f) (stepW w c) cs
def mostIn (w : Int) (cs : List Int) : Int := mostF (-1) w cs
theorem maxI_eq (a b : Int) : maxI a b = max a b := by
  unfold maxI
  split <;> omega
theorem mostF_max : ∀ (cs : List Int) (f g w : Int), mostF (max f g) w cs = max f (mostF g w cs)
  | [], f, g, w => rfl
  | c :: cs, f, g, w => by
    unfold mostF
    split
    · rw [maxI_eq, maxI_eq, ← mostF_max cs]
      congr 1
      omega
    · exact mostF_max cs f g _
theorem mostF_ge (cs : List Int) (f w : Int) : f ≤ mostF f w cs := by
  have h := mostF_max cs f f w
  rw [show max f f = f by omega] at h
  omega
theorem mostF_eq (cs : List Int) (f w : Int) (h : -1 ≤ f) : mostF f w cs = max f (mostIn w cs) := by
  unfold mostIn
  rw [← mostF_max, show max f (-1) = f by omega]
theorem mostF_mono : ∀ (cs : List Int) (f w v : Int), w ≤ v → mostF f w cs ≤ mostF f v cs
  | [], f, w, v, h => Int.le_refl _
  | c :: cs, f, w, v, h => by
    unfold mostF
    have hs : stepW w c ≤ stepW v c := by
      rw [stepW_eq, stepW_eq]
      omega
    split
    · refine Int.le_trans (mostF_mono cs _ _ _ hs) ?_
      rw [maxI_eq, maxI_eq]
      have e : max (max f (v + c - 1)) (max f (w + c - 1)) = max f (v + c - 1) := by omega
      have key := mostF_max cs (max f (v + c - 1)) (max f (w + c - 1)) (stepW v c)
      rw [e] at key
      rw [key]
      omega
    · exact mostF_mono cs _ _ _ hs
theorem mostF_app : ∀ (xs ys : List Int) (f w : Int), mostF f w (xs ++ ys) = mostF (mostF f w xs) (runW w xs) ys
  | [], ys, f, w => rfl
  | x :: xs, ys, f, w => by
    show mostF _ _ (xs ++ ys) = _
    rw [mostF_app xs ys]
    rfl
/-- the greatest delay of those that came below a slot -/
def mostTo (fs as : List Int) : Nat → Int
  | 0 => -1
  | t + 1 => if 0 < cnt fs as t then maxI (mostTo fs as t) (wAt fs as t + cnt fs as t - 1) else mostTo fs as t
section
variable {fs as : List Int}
theorem mostTo_ge : ∀ t, -1 ≤ mostTo fs as t
  | 0 => Int.le_refl _
  | t + 1 => by
    have h := mostTo_ge t
    unfold mostTo
    split
    · rw [maxI_eq]
      omega
    · exact h
theorem most_first : ∀ n, n ≤ fs.length → mostTo fs as n = mostIn 0 (fs.take n)
  | 0, _ => by
    rw [List.take_zero]
    rfl
  | n + 1, h => by
    unfold mostTo
    rw [most_first n (by omega), take_snoc (by omega), cnt_first (by omega), w_first n (by omega)]
    unfold mostIn
    rw [mostF_app]
    rfl
theorem most_lap (k : Nat) : ∀ n, n ≤ as.length → mostTo fs as (fs.length + k * as.length + n) = mostF (mostTo fs as (fs.length + k * as.length)) (lapW fs as k) (as.take n)
  | 0, _ => by
    rw [List.take_zero]
    rfl
  | n + 1, h => by
    have e : mostTo fs as (fs.length + k * as.length + n + 1) = if 0 < cnt fs as (fs.length + k * as.length + n) then maxI (mostTo fs as (fs.length + k * as.length + n)) (wAt fs as (fs.length + k * as.length + n) + cnt fs as (fs.length + k * as.length + n) - 1) else mostTo fs as (fs.length + k * as.length + n) := rfl
    show mostTo fs as (fs.length + k * as.length + n + 1) = _
    rw [e, most_lap k n (by omega), take_snoc (by omega), cnt_lap k n (by omega), w_lap k n (by omega), mostF_app]
    rfl
theorem most_laps (k : Nat) : mostTo fs as (fs.length + (k + 1) * as.length) = max (mostTo fs as (fs.length + k * as.length)) (mostIn (lapW fs as k) as) := by
  have e : fs.length + (k + 1) * as.length = fs.length + k * as.length + as.length := by
    rw [Nat.add_mul, Nat.one_mul]
    omega
  rw [e, most_lap k _ (Nat.le_refl _), List.take_length, mostF_eq _ _ _ (mostTo_ge _)]
def mostAll (fs as : List Int) : Int := mostTo fs as (fs.length + 2 * as.length)
theorem mostAll_eq : mostAll fs as = max (mostIn 0 fs) (max (mostIn (lapW fs as 0) as) (mostIn (lapW fs as 1) as)) := by
  unfold mostAll
  rw [most_laps 1, show (1 : Nat) = 0 + 1 from rfl, most_laps 0, Nat.zero_mul, Nat.add_zero, most_first _ (Nat.le_refl _), List.take_length]
  omega
/-- from the second lap on no greater one -/
theorem most_stable (A : Arr fs as) (h : mr as ≤ 0) : ∀ j, mostTo fs as (fs.length + (j + 2) * as.length) = mostAll fs as
  | 0 => by
    rw [Nat.zero_add]
    rfl
  | j + 1 => by
    rw [show j + 1 + 2 = (j + 2) + 1 by omega, most_laps (j + 2), most_stable A h j]
    have h1 : lapW fs as (j + 2) ≤ lapW fs as 1 := by
      have e1 := lapW_neg A h (j + 1)
      have e2 := lapW_neg A h 0
      have k1 : ((j + 1 + 1 : Nat) : Int) * mr as ≤ mr as := km_neg h (j + 1)
      have k2 : ((0 + 1 : Nat) : Int) * mr as = mr as := by
        rw [show ((0 + 1 : Nat) : Int) = 1 from rfl, Int.one_mul]
      rw [k2] at e2
      show lapW fs as (j + 1 + 1) ≤ lapW fs as (0 + 1)
      generalize ((j + 1 + 1 : Nat) : Int) * mr as = u at *
      generalize runW 0 as = R at *
      omega
    have h2 := mostF_mono as (-1) _ _ h1
    have h3 := mostAll_eq (fs := fs) (as := as)
    show max _ (mostF (-1) _ as) = _
    unfold mostIn at h3
    omega
theorem most_L (A : Arr fs as) (h : mr as ≤ 0) {L : Nat} (hL : ∀ k, L ≤ k → lapW fs as (k + 1) - lapW fs as k = max 0 (mr as)) : mostTo fs as (fs.length + (L + 1) * as.length) = mostAll fs as := by
  cases L with
  | succ L => exact most_stable A h L
  | zero =>
    have e := hL 0 (Nat.le_refl _)
    have e2 : lapW fs as 1 = lapW fs as 0 := by
      have : lapW fs as (0 + 1) = lapW fs as 1 := rfl
      omega
    rw [mostAll_eq, e2, most_laps 0, Nat.zero_mul, Nat.add_zero, most_first _ (Nat.le_refl _), List.take_length]
    omega
theorem mostTo_cong {gs bs : List Int} (h : ∀ t, cnt gs bs t = cnt fs as t) : ∀ t, mostTo gs bs t = mostTo fs as t
  | 0 => rfl
  | t + 1 => by
    unfold mostTo
    rw [mostTo_cong h t, h t, wAt_cong h t]
theorem most_on (A : Arr fs as) (h : mr as ≤ 0) : mostAll (fs ++ as) (as ++ as) = mostAll fs as := by
  have e := most_stable A h 3
  unfold mostAll at e ⊢
  rw [mostTo_cong (cnt_on A), List.length_append, List.length_append, ← e]
  congr 1
  omega
theorem most_hi (A : Arr fs as) : mostAll fs as ≤ 100000000 := by
  have h : ∀ t : Nat, mostTo fs as t ≤ 4 * t + 4 := fun t => by
    induction t with
    | zero =>
      show (-1 : Int) ≤ _
      omega
    | succ t ih =>
      have h1 := (w_le_c A t)
      have h2 := cnt_bd A t
      unfold mostTo
      split
      · rw [maxI_eq]
        omega
      · omega
  have h1 := h (fs.length + 2 * as.length)
  have := A.1.1
  have := A.2.1.1
  unfold mostAll
  omega
end
def mostD (fs as : List Int) : D := if 0 < mr as then .non else .int (mostAll fs as)
end FM

/-! the first delay above a size -/
namespace FM
open PySem L2 DL
/-- whether the last of n's packets has a delay above z -/
def ex (w : Int) (cs : List Int) (z : Int) (n : Nat) : Prop := 0 < cs.getD n 0 ∧ z < runW w (cs.take n) + cs.getD n 0 - 1
def exA (fs as : List Int) (z : Int) (t : Nat) : Prop := 0 < cnt fs as t ∧ z < wAt fs as t + cnt fs as t - 1
def AboveIn (w : Int) (cs : List Int) (z : Int) (d : D) : Prop := (d = .non ∧ ∀ n, n < cs.length → ¬ ex w cs z n) ∨ (∃ n : Nat, n < cs.length ∧ d = .tup [.int n, .int (max 0 (z + 1 - runW w (cs.take n)))] ∧ ex w cs z n ∧ ∀ n', n' < n → ¬ ex w cs z n')
def FirstAb (fs as : List Int) (z : Int) (d : D) : Prop := (d = .non ∧ ∀ t, ¬ exA fs as z t) ∨ (∃ t : Nat, d = .tup [.int t, .int (max 0 (z + 1 - wAt fs as t))] ∧ exA fs as z t ∧ ∀ t', t' < t → ¬ exA fs as z t')
theorem FirstAb.un {fs as : List Int} {z : Int} {d e : D} (h : FirstAb fs as z d) (g : FirstAb fs as z e) : d = e := by
  rcases h with ⟨rfl, h⟩ | ⟨t, rfl, h1, h2⟩ <;> rcases g with ⟨rfl, g⟩ | ⟨u, rfl, g1, g2⟩
  · rfl
  · exact absurd g1 (h u)
  · exact absurd h1 (g t)
  · have a : ¬ t < u := fun c => g2 t c h1
    have b : ¬ u < t := fun c => h2 u c g1
    have e : t = u := by omega
    rw [e]
section
variable {fs as : List Int} {z : Int}
theorem ex_first {n : Nat} (h : n < fs.length) : exA fs as z n ↔ ex 0 fs z n := by
  unfold exA ex
  rw [cnt_first h, w_first n (by omega)]
theorem ex_lap (k n : Nat) (h : n < as.length) : exA fs as z (fs.length + k * as.length + n) ↔ ex (lapW fs as k) as z n := by
  unfold exA ex lapW
  rw [cnt_lap k n h, w_lap k n (by omega)]
/-- each slot is one of first or one of a lap -/
theorem slot_form (A : Arr fs as) {t : Nat} (h : ¬ t < fs.length) : ∃ k n, n < as.length ∧ t = fs.length + k * as.length + n := by
  refine ⟨(t - fs.length) / as.length, (t - fs.length) % as.length, Nat.mod_lt _ A.2.2, ?_⟩
  have := Nat.div_add_mod (t - fs.length) as.length
  rw [Nat.mul_comm] at this
  omega
theorem ex_mono {w v : Int} (hw : 0 ≤ w) (h : w ≤ v) (hc : ∀ c ∈ as, 0 ≤ c) (n : Nat) (e : ex w as z n) : ex v as z n := by
  refine ⟨e.1, ?_⟩
  have ht : ∀ c ∈ as.take n, 0 ≤ c := fun c h => hc c (List.mem_of_mem_take h)
  have h1 := runW_max (as.take n) w hw ht
  have h2 := runW_max (as.take n) v (by omega) ht
  have h3 := e.2
  omega
def needAt (as : List Int) (z : Int) (n : Nat) : Int := z + 2 - as.getD n 0 - (as.take n).sum + n
/-- where a lap from nothing is never above z -/
theorem ex_need {n : Nat} {w : Int} (hw : 0 ≤ w) (hc : ∀ c ∈ as, 0 ≤ c) (hn : n < as.length) (h0 : ¬ ex 0 as z n) : ex w as z n ↔ (0 < as.getD n 0 ∧ needAt as z n ≤ w) := by
  have ht : ∀ c ∈ as.take n, 0 ≤ c := fun c h => hc c (List.mem_of_mem_take h)
  have h1 := runW_max (as.take n) w hw ht
  have hl : (as.take n).length = n := by
    rw [List.length_take]
    omega
  rw [hl] at h1
  unfold ex at h0 ⊢
  unfold needAt
  rw [h1]
  generalize runW 0 (as.take n) = R at *
  constructor
  · rintro ⟨a, b⟩
    refine ⟨a, ?_⟩
    have : ¬ z < R + as.getD n 0 - 1 := fun c => h0 ⟨a, c⟩
    omega
  · rintro ⟨a, b⟩
    exact ⟨a, by omega⟩
theorem lapW_up (A : Arr fs as) (h : 0 ≤ mr as) : ∀ j : Nat, lapW fs as (j + 1) = lapW fs as 1 + j * mr as
  | 0 => by
    rw [show ((0 : Nat) : Int) = 0 from rfl, Int.zero_mul, Int.add_zero]
  | j + 1 => by
    have h1 := dl_pos A h j
    have h2 := lapW_up A h j
    rw [show ((j + 1 : Nat) : Int) = (j : Int) + 1 by omega, Int.add_mul, Int.one_mul]
    omega
theorem lapW_down (A : Arr fs as) (h : mr as ≤ 0) (j : Nat) : lapW fs as (j + 1) ≤ lapW fs as 1 := by
  cases j with
  | zero => exact Int.le_refl _
  | succ j =>
    have e1 := lapW_neg A h (j + 1)
    have e2 := lapW_neg A h 0
    have k1 : ((j + 1 + 1 : Nat) : Int) * mr as ≤ mr as := km_neg h (j + 1)
    have k2 : ((0 + 1 : Nat) : Int) * mr as = mr as := by
      rw [show ((0 + 1 : Nat) : Int) = 1 from rfl, Int.one_mul]
    rw [k2] at e2
    show lapW fs as (j + 1 + 1) ≤ lapW fs as (0 + 1)
    generalize ((j + 1 + 1 : Nat) : Int) * mr as = u at *
    generalize runW 0 as = R at *
    omega
/-- in laps that go alike no slot is empty for want of packets -/
theorem along_in (A : Arr fs as) {k : Nat} (h : lapW fs as (k + 1) - lapW fs as k = mr as) {n : Nat} (hn : n ≤ as.length) : wAt fs as (fs.length + k * as.length + n) = lapW fs as k + (as.take n).sum - n := by
  have hc : ∀ c ∈ as, 0 ≤ c := fun c hc => (A.2.1.2 c hc).1
  have ht : ∀ c ∈ as.take n, 0 ≤ c := fun c h => hc c (List.mem_of_mem_take h)
  have hd : ∀ c ∈ as.drop n, 0 ≤ c := fun c h => hc c (List.mem_of_mem_drop h)
  have w0 : 0 ≤ lapW fs as k := lapW_nn k
  have hl : (as.take n).length = n := by
    rw [List.length_take]
    omega
  have e1 := w_lap (fs := fs) (as := as) k n hn
  have e2 := runW_max (as.take n) (lapW fs as k) w0 ht
  rw [hl] at e2
  have e3 := w_lap (fs := fs) (as := as) k as.length (Nat.le_refl _)
  have e4 : lapW fs as (k + 1) = runW (lapW fs as k) as := by
    have : fs.length + (k + 1) * as.length = fs.length + k * as.length + as.length := by
      rw [Nat.add_mul, Nat.one_mul]
      omega
    unfold lapW
    rw [this, e3, List.take_length]
  have e5 : runW (lapW fs as k) as = runW (runW (lapW fs as k) (as.take n)) (as.drop n) := by
    unfold runW
    rw [← List.foldl_append, List.take_append_drop]
  have e6 := runW_max (as.drop n) (runW (lapW fs as k) (as.take n)) (runW_nn _ _ w0) hd
  have e7 : as.sum = (as.take n).sum + (as.drop n).sum := by
    rw [← List.sum_append, List.take_append_drop]
  have e8 : (as.drop n).length = as.length - n := List.length_drop
  rw [e8] at e6
  have em : mr as = as.sum - as.length := rfl
  unfold lapW at *
  rw [e1]
  generalize runW 0 (as.take n) = R1 at *
  generalize runW 0 (as.drop n) = R2 at *
  omega
/-- all laps from L on -/
theorem along_far (A : Arr fs as) (hm : 0 ≤ mr as) {L : Nat} (h : ∀ k, L ≤ k → lapW fs as (k + 1) - lapW fs as k = max 0 (mr as)) (j : Nat) {n : Nat} (hn : n ≤ as.length) : wAt fs as (fs.length + (L + j) * as.length + n) = wAt fs as (fs.length + L * as.length + n) + j * mr as := by
  have em : max 0 (mr as) = mr as := by omega
  have e1 := along_in A (by rw [h (L + j) (by omega), em]) hn
  have e2 := along_in A (by rw [h L (Nat.le_refl _), em]) hn
  have e3 := lapW_along h j
  rw [em] at e3
  rw [e1, e2, e3]
  omega
/-- the greatest delay is not above z just if none is -/
theorem most_ex (hz : -1 ≤ z) : ∀ n, mostTo fs as n ≤ z ↔ ∀ t, t < n → ¬ exA fs as z t
  | 0 => ⟨fun _ t h => by omega, fun _ => hz⟩
  | n + 1 => by
    have ih := most_ex hz n
    unfold mostTo
    by_cases c : 0 < cnt fs as n
    · rw [if_pos c, maxI_eq]
      constructor
      · intro h t ht e
        by_cases ct : t = n
        · subst ct
          have := e.2
          omega
        · exact ih.mp (by omega) t (by omega) e
      · intro h
        have h1 := ih.mpr fun t ht => h t (by omega)
        have h2 : ¬ z < wAt fs as n + cnt fs as n - 1 := fun g => h n (by omega) ⟨c, g⟩
        omega
    · rw [if_neg c]
      constructor
      · intro h t ht e
        by_cases ct : t = n
        · subst ct
          exact c e.1
        · exact ih.mp h t (by omega) e
      · intro h
        exact ih.mpr fun t ht => h t (by omega)
theorem most_none (A : Arr fs as) (hz : -1 ≤ z) (h : mr as ≤ 0) : mostAll fs as ≤ z ↔ ∀ t, ¬ exA fs as z t := by
  constructor
  · intro hm t
    have e := most_stable A h t
    have hl := A.2.2
    have hb : t < fs.length + (t + 2) * as.length := by
      have : t + 2 ≤ (t + 2) * as.length := Nat.le_mul_of_pos_right _ hl
      omega
    exact (most_ex hz _).mp (by rw [e]; exact hm) t hb
  · intro ha
    exact (most_ex hz _).mpr fun t _ => ha t
theorem w_ge (A : Arr fs as) : ∀ t : Nat, cAt fs as t - t ≤ wAt fs as t
  | 0 => Int.le_refl _
  | t + 1 => by
    have h := w_ge A t
    show cAt fs as t + cnt fs as t - ((t + 1 : Nat) : Int) ≤ stepW (wAt fs as t) (cnt fs as t)
    rw [stepW_eq]
    omega
theorem grow_ex (A : Arr fs as) (h : 0 < mr as) (hz : 0 ≤ z) : ∃ t, exA fs as z t ∧ (t : Int) ≤ (z + 3002) * 1000 + 2000 := by
  have hs : 0 < as.sum := by
    unfold mr at h
    omega
  have hex : ∃ n, n < as.length ∧ 0 < as.getD n 0 := by
    refine Classical.byContradiction fun hne => ?_
    have h0 : ∀ c ∈ as, c = 0 := fun c hc => by
      obtain ⟨i, hi, rfl⟩ := List.getElem_of_mem hc
      have h1 := (A.2.1.2 _ hc).1
      have h2 : ¬ 0 < as.getD i 0 := fun g => hne ⟨i, hi, g⟩
      rw [List.getD_eq_getElem?_getD, List.getElem?_eq_getElem hi] at h2
      have h2 : ¬ 0 < as[i] := h2
      omega
    have h3 : as.sum = 0 := by
      clear h hs hne A
      induction as with
      | nil => rfl
      | cons a as ih =>
        rw [List.sum_cons, h0 a List.mem_cons_self, ih fun c hc => h0 c (List.mem_cons_of_mem _ hc)]
        rfl
    omega
  obtain ⟨n, hn, hc⟩ := hex
  obtain ⟨k, hk⟩ : ∃ k : Nat, (k : Int) = z + fs.length + as.length + 2 := ⟨(z + fs.length + as.length + 2).toNat, by omega⟩
  have hc1 : 0 < cnt fs as (fs.length + k * as.length + n) := by
    rw [cnt_lap k n hn]
    exact hc
  refine ⟨fs.length + k * as.length + n, ⟨hc1, ?_⟩, ?_⟩
  rotate_left
  · have b1 := A.1.1
    have b2 := A.2.1.1
    have b3 : k * as.length ≤ k * 1000 := Nat.mul_le_mul_left _ b2
    omega
  have g := w_ge A (fs.length + k * as.length + n)
  rw [c_lap k n (by omega), c_laps] at g
  have s1 := sum_bd fs A.1.2
  have s2 := sum_bd (as.take n) fun c h => A.2.1.2 c (List.mem_of_mem_take h)
  have e1 : ((fs.length + k * as.length + n : Nat) : Int) = (fs.length : Int) + (k : Int) * (as.length : Int) + (n : Int) := by
    rw [Int.natCast_add, Int.natCast_add, Int.natCast_mul]
  have e2 : (k : Int) * as.sum = (k : Int) * mr as + (k : Int) * (as.length : Int) := by
    rw [← Int.mul_add]
    unfold mr
    congr 1
    omega
  have m1 : (k : Int) * 1 ≤ (k : Int) * mr as := Int.mul_le_mul_of_nonneg_left (by omega) (by omega)
  rw [e1, e2] at g
  generalize (k : Int) * (as.length : Int) = x at *
  generalize (k : Int) * mr as = y at *
  omega
theorem first_of (A : Arr fs as) {k n : Nat} (h1 : ∀ n, n < fs.length → ¬ ex 0 fs z n) (h2 : ∀ j, j < k → ∀ n, n < as.length → ¬ ex (lapW fs as j) as z n) (hn : n < as.length) (he : ex (lapW fs as k) as z n) (h3 : ∀ n', n' < n → ¬ ex (lapW fs as k) as z n') :
    FirstAb fs as z (.tup [.int (fs.length + k * as.length + n : Nat), .int (max 0 (z + 1 - runW (lapW fs as k) (as.take n)))]) := by
  have hw := w_lap (fs := fs) (as := as) k n (by omega)
  refine .inr ⟨fs.length + k * as.length + n, ?_, (ex_lap k n hn).mpr he, fun t ht e => ?_⟩
  · rw [hw]
    rfl
  · by_cases c : t < fs.length
    · exact h1 t c ((ex_first c).mp e)
    · obtain ⟨j, m, hm, rfl⟩ := slot_form A c
      have e2 := (ex_lap j m hm).mp e
      by_cases cj : j < k
      · exact h2 j cj m hm e2
      · have cj2 : j = k := by
          by_cases cj3 : k < j
          · have : (k + 1) * as.length ≤ j * as.length := Nat.mul_le_mul_right _ cj3
            rw [Nat.add_mul, Nat.one_mul] at this
            omega
          · omega
        subst cj2
        exact h3 m (by omega) e2
theorem none_of (A : Arr fs as) (h1 : ∀ n, n < fs.length → ¬ ex 0 fs z n) (h2 : ∀ j n, n < as.length → ¬ ex (lapW fs as j) as z n) : FirstAb fs as z .non := by
  refine .inl ⟨rfl, fun t e => ?_⟩
  by_cases c : t < fs.length
  · exact h1 t c ((ex_first c).mp e)
  · obtain ⟨j, m, hm, rfl⟩ := slot_form A c
    exact h2 j m hm ((ex_lap j m hm).mp e)
def IsNeed (as : List Int) (z v : Int) : Prop := (∃ n, n < as.length ∧ 0 < as.getD n 0 ∧ v = needAt as z n) ∧ ∀ n, n < as.length → 0 < as.getD n 0 → v ≤ needAt as z n
theorem ex_some (A : Arr fs as) {v w : Int} (hw : 0 ≤ w) (h0 : ∀ n, n < as.length → ¬ ex (lapW fs as 0) as z n) (hv : IsNeed as z v) : (∃ n, n < as.length ∧ ex w as z n) ↔ v ≤ w := by
  have hc : ∀ c ∈ as, 0 ≤ c := fun c hc => (A.2.1.2 c hc).1
  have h00 : ∀ n, n < as.length → ¬ ex 0 as z n := fun n hn e => h0 n hn (ex_mono (Int.le_refl _) (lapW_nn 0) hc n e)
  constructor
  · rintro ⟨n, hn, e⟩
    obtain ⟨a, b⟩ := (ex_need hw hc hn (h00 n hn)).mp e
    exact Int.le_trans (hv.2 n hn a) b
  · intro hvw
    obtain ⟨n, hn, a, rfl⟩ := hv.1
    exact ⟨n, hn, (ex_need hw hc hn (h00 n hn)).mpr ⟨a, hvw⟩⟩
theorem lap_pick (A : Arr fs as) (hm : 0 < mr as) {v : Int} (h0 : ∀ n, n < as.length → ¬ ex (lapW fs as 0) as z n) (hv : IsNeed as z v) : ∃ k : Nat, 1 + max 0 ((v - lapW fs as 1 + mr as - 1) / mr as) = (k : Int) ∧ (∀ j, j < k → ∀ n, n < as.length → ¬ ex (lapW fs as j) as z n) ∧ ∃ n, n < as.length ∧ ex (lapW fs as k) as z n := by
  have dm := Int.mul_ediv_add_emod (v - lapW fs as 1 + mr as - 1) (mr as)
  have r0 := Int.emod_nonneg (v - lapW fs as 1 + mr as - 1) (show mr as ≠ 0 by omega)
  have r1 := Int.emod_lt_of_pos (v - lapW fs as 1 + mr as - 1) hm
  obtain ⟨q, hq⟩ : ∃ q, q = (v - lapW fs as 1 + mr as - 1) / mr as := ⟨_, rfl⟩
  rw [← hq] at dm ⊢
  obtain ⟨k, hk⟩ : ∃ k : Nat, max 0 q = (k : Int) := ⟨(max 0 q).toNat, by omega⟩
  refine ⟨k + 1, by omega, fun j hj n hn e => ?_, (ex_some A (lapW_nn _) h0 hv).mpr ?_⟩
  · cases j with
    | zero => exact h0 n hn e
    | succ j =>
      have h1 := (ex_some A (lapW_nn _) h0 hv).mp ⟨n, hn, e⟩
      rw [lapW_up A (by omega) j] at h1
      have hj2 : (j : Int) ≤ q - 1 := by omega
      have h2 : (j : Int) * mr as ≤ (q - 1) * mr as := Int.mul_le_mul_of_nonneg_right hj2 (by omega)
      rw [Int.sub_mul, Int.one_mul, Int.mul_comm q] at h2
      omega
  · rw [lapW_up A (by omega) k]
    have h2 : q * mr as ≤ (k : Int) * mr as := Int.mul_le_mul_of_nonneg_right (by omega) (by omega)
    rw [Int.mul_comm q] at h2
    omega
theorem lap_one (A : Arr fs as) (hm : mr as ≤ 0) (h0 : ∀ n, n < as.length → ¬ ex (lapW fs as 0) as z n) (h1 : ∀ n, n < as.length → ¬ ex (lapW fs as 1) as z n) : ∀ j n, n < as.length → ¬ ex (lapW fs as j) as z n := fun j n hn e => by
  cases j with
  | zero => exact h0 n hn e
  | succ j => exact h1 n hn (ex_mono (lapW_nn _) (lapW_down A hm j) (fun c hc => (A.2.1.2 c hc).1) n e)
/-- the law's own way: behind the laps that it goes through -/
def jAt (fs as : List Int) (z : Int) (L n : Nat) : Int := (z - (wAt fs as (fs.length + L * as.length + n) + as.getD n 0 - 1)) / mr as + 1
theorem far_pick (A : Arr fs as) (hm : 0 < mr as) {L : Nat} (hL : ∀ k, L ≤ k → lapW fs as (k + 1) - lapW fs as k = max 0 (mr as)) (hno : ∀ t, t < fs.length + (L + 1) * as.length → ¬ exA fs as z t) {n : Nat} (hn : n < as.length) (hc : 0 < as.getD n 0) :
    0 ≤ jAt fs as z L n ∧ ∀ j : Nat, exA fs as z (fs.length + (L + j) * as.length + n) ↔ jAt fs as z L n ≤ j := by
  have hb : fs.length + L * as.length + n < fs.length + (L + 1) * as.length := by
    rw [Nat.add_mul, Nat.one_mul]
    omega
  have h0 := hno _ hb
  have ec : ∀ k, cnt fs as (fs.length + k * as.length + n) = as.getD n 0 := fun k => cnt_lap k n hn
  unfold exA at h0
  rw [ec] at h0
  have hle : wAt fs as (fs.length + L * as.length + n) + as.getD n 0 - 1 ≤ z := by
    have : ¬ z < wAt fs as (fs.length + L * as.length + n) + as.getD n 0 - 1 := fun g => h0 ⟨hc, g⟩
    omega
  unfold jAt
  obtain ⟨x, hx⟩ : ∃ x, x = wAt fs as (fs.length + L * as.length + n) + as.getD n 0 - 1 := ⟨_, rfl⟩
  rw [← hx] at hle ⊢
  have dm := Int.mul_ediv_add_emod (z - x) (mr as)
  have r0 := Int.emod_nonneg (z - x) (show mr as ≠ 0 by omega)
  have r1 := Int.emod_lt_of_pos (z - x) hm
  have q0 : 0 ≤ (z - x) / mr as := Int.ediv_nonneg (by omega) (by omega)
  obtain ⟨q, hq⟩ : ∃ q, q = (z - x) / mr as := ⟨_, rfl⟩
  rw [← hq] at dm q0 ⊢
  refine ⟨by omega, fun j => ?_⟩
  unfold exA
  rw [ec, along_far A (by omega) hL j (by omega)]
  constructor
  · rintro ⟨_, g⟩
    refine Classical.byContradiction fun hj => ?_
    have h2 : (j : Int) * mr as ≤ q * mr as := Int.mul_le_mul_of_nonneg_right (by omega) (by omega)
    rw [Int.mul_comm q] at h2
    omega
  · intro hj
    refine ⟨hc, ?_⟩
    have h2 : (q + 1) * mr as ≤ (j : Int) * mr as := Int.mul_le_mul_of_nonneg_right hj (by omega)
    rw [Int.add_mul, Int.one_mul, Int.mul_comm q] at h2
    omega
/-- the least of them all is the first -/
theorem far_first (A : Arr fs as) (hm : 0 < mr as) {L : Nat} (hL : ∀ k, L ≤ k → lapW fs as (k + 1) - lapW fs as k = max 0 (mr as)) (hno : ∀ t, t < fs.length + (L + 1) * as.length → ¬ exA fs as z t) {n : Nat} (hn : n < as.length) (hc : 0 < as.getD n 0) {j : Nat} (hj : jAt fs as z L n = j)
    (hmin : ∀ n', n' < as.length → 0 < as.getD n' 0 → ∀ j' : Nat, jAt fs as z L n' = j' → L * as.length + n + j * as.length ≤ L * as.length + n' + j' * as.length) : FirstAb fs as z (.tup [.int (fs.length + (L + j) * as.length + n : Nat), .int (max 0 (z + 1 - wAt fs as (fs.length + (L + j) * as.length + n)))]) := by
  refine .inr ⟨_, rfl, ((far_pick A hm hL hno hn hc).2 j).mpr (by omega), fun t ht e => ?_⟩
  by_cases c : t < fs.length + (L + 1) * as.length
  · exact hno t c e
  · have c2 : ¬ t < fs.length := by omega
    obtain ⟨k, n', hn', rfl⟩ := slot_form A c2
    have hk : L ≤ k := by
      refine Classical.byContradiction fun hk => c ?_
      have : (k + 1) * as.length ≤ (L + 1) * as.length := Nat.mul_le_mul_right _ (by omega)
      rw [Nat.add_mul k, Nat.one_mul] at this
      omega
    obtain ⟨i, rfl⟩ : ∃ i, k = L + i := ⟨k - L, by omega⟩
    have hc' : 0 < as.getD n' 0 := by
      have := e.1
      rw [cnt_lap _ _ hn'] at this
      exact this
    obtain ⟨p0, p1⟩ := far_pick A hm hL hno hn' hc'
    obtain ⟨j', hj'⟩ := Int.eq_ofNat_of_zero_le p0
    have h1 := (p1 i).mp e
    have h2 := hmin n' hn' hc' j' hj'
    have h3 : j' * as.length ≤ i * as.length := Nat.mul_le_mul_right _ (by omega)
    rw [Nat.add_mul, Nat.add_mul] at ht
    omega
theorem ab_bound (A : Arr fs as) (hz : 0 ≤ z) {t : Nat} (he : exA fs as z t) (hmin : ∀ t', t' < t → ¬ exA fs as z t') : (t : Int) ≤ (z + 3002) * 1000 + 4000 := by
  by_cases h : 0 < mr as
  · obtain ⟨u, hu, hb⟩ := grow_ex A h hz
    have : ¬ u < t := fun c => hmin u c hu
    omega
  · refine Classical.byContradiction fun c => ?_
    have b1 := A.1.1
    have b2 := A.2.1.1
    have h1 : mostAll fs as ≤ z := (most_ex (by omega) _).mpr fun u hu e => hmin u (by omega) e
    exact (most_none A (by omega) (by omega)).mp h1 t he
end
end FM

namespace K43
open PySem L2 DL
local macro_rules | `(tactic| walk_at "d") => `(tactic| try simp (config := { maxSteps := 3000000 }) only [aSeq, aSet, aVar, aMov, aC, aOp, aI, aIC, aB, aAnd, aOr, aNot, aTest, aIf, aAndV, aOrV, aNotV, aChain, aIsi, aCall, aCons, aNil, aRet, aRetN, aNext, aDrop, aIfS, aNev, aFn, aTup, aLst, aNeg, aIx, aIn, aEq, aNe, aIsN, aNotN, aAsg, agTup, agCons, agNil, agName, aPar, aAug, aInt, aI1, aI2, aLen, aPart, aNoP, aSlT, aSlL, aIxO, aBor, aApp, aPut, aCallM, aCallT, aYes, aLc, aItL, aItT, aItEnT, aItEnL, aItZip, aCallK, aCatL, aCatT, aStar, aExt, aPar3, aLtT, aRepr, aRng1, aRng2, aFor, wipeS, aTupl, aList, aListRange1, aPowW, aLt, aLe, aGt, aGe,
  aIntsT_tup, aInts_lst, aBls_lst, fSum,
  Sl.d, endsD, endsM, startS, List.map, List.length_cons, List.length_nil, List.length_replicate, List.length_append, List.cons_append, List.nil_append, List.replicate, List.getElem?_cons_zero, List.getElem?_cons_succ, List.getElem?_nil, List.set_cons_zero, List.set_cons_succ, List.set_nil, Nat.zero_add, Nat.reduceAdd, Nat.reduceSub, seqD, lstD, isi, isN, eqS, flatD, if_true, if_false, ite_true, ite_false, reduceIte, Bool.false_eq_true, true_and, and_true, reduceCtorEq, at2_0, at2_1, at3_0, at3_1, at3_2, ix3_0, ix3_2, dec_t, Bool.not_true, Bool.not_false])
abbrev A_is_integer : AS := (aRet (aAndV (aIsi .int (aVar 0)) (aNotV (aIsi .bool (aVar 0)))))
theorem law_is_integer : ∀ ds Q, ds.length = 1 → S_is_integer ds Q → A_is_integer (endsD Q) (startS 1 (ds.map .pu)) := by
  intro ds Q hl h
  obtain ⟨d, rfl, ho, h⟩ := h
  walk_at "d"
  cases d <;> first | exact ho.elim | exact h
abbrev A_is_within : AS := (aRet (aAndV (aCall (aFn 1 S_is_integer) (aCons (aVar 0) aNil)) (aChain aLe aLe (aVar 1) (aVar 0) (aVar 2))))
theorem law_is_within : ∀ ds Q, ds.length = 3 → S_is_within ds Q → A_is_within (endsD Q) (startS 3 (ds.map .pu)) := by
  intro ds Q hl h
  obtain ⟨d, lo, hi, rfl, ho, h⟩ := h
  walk_at "d"
  refine ⟨d, rfl, ho, ?_⟩
  cases d <;> first | exact ho.elim | exact h | skip
  rename_i i
  have h : Q (.pu (.bl (decide (lo ≤ i) && decide (i ≤ hi)))) := h
  walk_at "d"
  by_cases c : lo ≤ i
  · rw [decide_eq_true c, Bool.true_and] at h
    simpa [c, isIntD] using h
  · rw [decide_eq_false c, Bool.false_and] at h
    simpa [c, isIntD] using h
abbrev A__law_take : AS := (aSeq (aIfS (aTest (aOp aGt (aIxO 0 (aC (.int 0))) (aC (.int 0)))) (aSeq (aSet 2 (aMod (aCall aInt (aCons (aIxO 0 (aC (.int 0))) aNil)) (aVar 1)))
  (aSeq (aPut 0 (aDivW (aIxO 0 (aC (.int 0))) (aVar 1)) (aC (.int 0)))
  (aRet (aVar 2)))) aNext)
  (aSeq (aPut 0 (aAdd (aIxO 0 (aC (.int 2))) (aC (.int 1))) (aC (.int 2)))
  (aSeq (aSet 3 (aOp aIx (aLst (aCons (aC (.int 2147483647)) (aCons (aC (.int 2147483629)) (aCons (aC (.int 2147483587)) (aCons (aC (.int 2147483579)) (aCons (aC (.int 2147483563)) aNil)))))) (aMod (aCall aInt (aCons (aIxO 0 (aC (.int 2))) aNil)) (aC (.int 5)))))
  (aSeq (aSet 4 (aMod (aCall aInt (aCons (aPow (aCall aInt (aCons (aAdd (aAdd (aIxO 0 (aC (.int 1))) (aMul (aMul (aC (.int 98773)) (aIxO 0 (aC (.int 2)))) (aIxO 0 (aC (.int 2))))) (aC (.int 817))) aNil)) (aC (.int 3))) aNil)) (aVar 3)))
  (aSeq (aSet 4 (aMod (aCall aInt (aCons (aMul (aVar 4) (aAdd (aMod (aCall aInt (aCons (aVar 4) aNil)) (aC (.int 10875))) (aMul (aC (.int 116)) (aIxO 0 (aC (.int 2)))))) aNil)) (aC (.int 2305843009213693907))))
  (aRet (aMod (aCall aInt (aCons (aDivW (aVar 4) (aC (.int 173))) aNil)) (aVar 1))))))))
theorem law__law_take : ∀ xs ds Q p, ds.length + 1 = 2 → S__law_take xs ds Q → A__law_take (endsM Q p) (startS 5 (.ow p xs :: ds.map .pu)) := by
  intro xs ds Q p hl h
  obtain ⟨n, c, rfl, h0, h1, h2, ⟨a, b, k, rfl, h3, h4, h5, h6, h7⟩, h⟩ := h
  walk_at "d"
  refine ite2 (fun ha => ?_) (fun ha => ?_)
  · refine ⟨h0, cdivW h0 h1, _, rfl, h _ _ (Int.emod_nonneg _ (by omega)) (Int.emod_lt_of_pos _ h0) ⟨_, _, _, rfl, Int.ediv_nonneg h3 (by omega), h4, h5, h6, by omega⟩⟩
  · refine ⟨by decide, fun _ => ⟨by decide, ?_⟩⟩
    obtain ⟨q, e, hq⟩ := at5 2147483647 2147483629 2147483587 2147483579 2147483563 ((k + 1) % 5) (Int.emod_nonneg _ (by decide)) (Int.emod_lt_of_pos _ (by decide))
    have q0 : 0 < q := by omega
    have q1 : q < 2147483648 := by omega
    rw [e]
    have k1 : 0 ≤ k + 1 := by omega
    have k2 : k + 1 ≤ 1000000 := by omega
    have m1 := mul_le (a := 98773) (b := k + 1) (by decide) k1 (Int.le_refl _) k2
    have m2 := mul_le (a := 98773 * (k + 1)) (b := k + 1) m1.1 k1 m1.2 k2
    refine ⟨cmul_l (by decide) (by decide), cmul_l m1.1 (by omega), cpow3 (by omega) (by omega), q0, by decide, cmul_l (by decide) (by decide), ?_, by decide, cdivW (by decide) (by decide), h0, _, rfl, h _ _ (Int.emod_nonneg _ (by omega)) (Int.emod_lt_of_pos _ h0) ⟨_, _, _, rfl, h3, h4, h5, k1, by omega⟩⟩
    exact cmul_l (Int.emod_nonneg _ (by omega)) (Int.lt_of_lt_of_le (Int.emod_lt_of_pos _ q0) (by omega))
abbrev A__law_of : AS := (aRet (aOp aIx (aVar 1) (aCallM 2 0 S__law_take (aCons (aCall aLen (aCons (aVar 1) aNil)) aNil))))
theorem law__law_of : ∀ xs ds Q p, ds.length + 1 = 2 → S__law_of xs ds Q → A__law_of (endsM Q p) (startS 2 (.ow p xs :: ds.map .pu)) := by
  intro xs ds Q p hl h
  obtain ⟨es, c, hd, h0, h1, h2, h3, h⟩ := h
  have l0 : 0 < es.length := List.length_pos_iff.mpr h0
  rcases hd with rfl | rfl
  all_goals
    walk_at "d"
    refine ⟨es.length, c, rfl, by omega, by omega, h2, h3, fun j xs' j0 j1 hp => ?_⟩
    obtain ⟨d, e1, e2, e3⟩ := atI_in j0 j1
    walk_at "d"
    rw [e1]
    exact ⟨_, rfl, h d xs' e3 hp⟩
abbrev A__law_pot : AS := (aSeq (aSet 2 (aIf (aTest (aOp aLt (aVar 1) (aCall aLen (aCons (aVar 0) aNil)))) (aOp aIx (aVar 0) (aVar 1)) (aAdd (aAdd (aMod (aCall (aInts fSum) (aCons (aSlL (aVar 0) aNoP (aPart (aC (.int 1)))) aNil)) (aC (.int 1000003))) (aMul (aC (.int 1433)) (aVar 1))) (aC (.int 809)))))
  (aSeq (aSet 3 (aMul (aMod (aCall aInt (aCons (aCall (aI1 absI) (aCons (aVar 2) aNil)) aNil)) (aPowW (aPow (aC (.int 10)) (aC (.int 60))) (aC (.int 5)))) (aCall aInt (aCons (aOp aGe (aCall (aI1 absI) (aCons (aVar 2) aNil)) (aPow (aC (.int 10)) (aC (.int 18)))) aNil))))
  (aSeq (aSet 4 (aMod (aCall aInt (aCons (aVar 2) aNil)) (aC (.int 2305843009213693951))))
  (aRet (aLst (aCons (aVar 3) (aCons (aMod (aCall aInt (aCons (aAdd (aAdd (aMul (aVar 4) (aC (.int 73727))) (aMul (aMul (aC (.int 8563)) (aVar 1)) (aVar 1))) (aC (.int 811))) aNil)) (aC (.int 2305843009213693921))) (aCons (aC (.int 0)) aNil))))))))
theorem law__law_pot : ∀ ds Q, ds.length = 2 → S__law_pot ds Q → A__law_pot (endsD Q) (startS 5 (ds.map .pu)) := by
  intro ds Q hl h
  obtain ⟨ns, i, rfl, h0, h1, h2, h⟩ := h
  walk_at "d"
  rw [List.length_map]
  have i1 := mul_le (a := 8563) (b := i) (by decide) h0 (Int.le_refl _) h1
  refine ite2 (fun c => ?_) (fun c => ?_)
  · obtain ⟨d, e1, e2, e3⟩ := atI_in (ds := ns.map D.int) h0 (by rw [List.length_map]; exact c)
    rw [e1]
    obtain ⟨v, _, rfl⟩ := List.mem_map.mp e3
    have v0 := Int.emod_nonneg v (show (2305843009213693951 : Int) ≠ 0 by decide)
    have v1 := Int.emod_lt_of_pos v (show (0 : Int) < 2305843009213693951 by decide)
    exact ⟨⟨by decide, by decide, by decide⟩, cpw, big_pos, ⟨by decide, by decide, by decide⟩, cmul_r (by split <;> decide) (by split <;> decide), by decide, cmul_l v0 (by omega), cmul_l (by decide) (by decide), cmul_l i1.1 (by omega), by decide, by decide, fun p => h p _ ⟨_, _, _, rfl, own_nn _ _ (Int.ne_of_gt big_pos), Int.emod_nonneg _ (by decide), Int.emod_lt_of_pos _ (by decide), by decide, by decide⟩⟩
  · intro p
    have e := cutD_to (ns.map D.int) 1
    rw [show ((1 : Nat) : Int) = 1 from rfl, ← List.map_take] at e
    rw [e, aInts_lst]
    unfold fSum
    walk_at "d"
    generalize (List.take 1 ns).sum % 1000003 + 1433 * i + 809 = v
    have v0 := Int.emod_nonneg v (show (2305843009213693951 : Int) ≠ 0 by decide)
    have v1 := Int.emod_lt_of_pos v (show (0 : Int) < 2305843009213693951 by decide)
    exact ⟨by decide, cmul_l (by decide) (by decide), ⟨by decide, by decide, by decide⟩, cpw, big_pos, ⟨by decide, by decide, by decide⟩, cmul_r (by split <;> decide) (by split <;> decide), by decide, cmul_l v0 (by omega), cmul_l (by decide) (by decide), cmul_l i1.1 (by omega), by decide, by decide, fun p => h p _ ⟨_, _, _, rfl, own_nn _ _ (Int.ne_of_gt big_pos), Int.emod_nonneg _ (by decide), Int.emod_lt_of_pos _ (by decide), by decide, by decide⟩⟩
abbrev A__law_cells : AS := (aRet (aListRange1 (aCons (aCall (aI2 maxI) (aCons (aC (.int 1)) (aCons (aCall (aI2 minI) (aCons (aVar 1) (aCons (aCall aLen (aCons (aVar 0) aNil)) aNil))) aNil))) aNil)))
theorem law__law_cells : ∀ ds Q, ds.length = 2 → S__law_cells ds Q → A__law_cells (endsD Q) (startS 2 (ds.map .pu)) := by
  intro ds Q hl h
  obtain ⟨ns, i, rfl, h0, h1, h2, h⟩ := h
  walk_at "d"
  rw [List.length_map]
  have e : 0 ≤ maxI 1 (minI i ns.length) ∧ maxI 1 (minI i ns.length) ≤ i := by
    unfold maxI minI
    split <;> split <;> omega
  exact ⟨⟨e.1, by omega⟩, fun p => h p _ (by omega)⟩

end K43

namespace K43
open PySem L2 DL FM
local macro_rules | `(tactic| walk_at "d") => `(tactic| try simp (config := { maxSteps := 3000000 }) only [aSeq, aSet, aVar, aMov, aC, aOp, aI, aIC, aB, aAnd, aOr, aNot, aTest, aIf, aAndV, aOrV, aNotV, aChain, aIsi, aCall, aCons, aNil, aRet, aRetN, aNext, aDrop, aIfS, aNev, aFn, aTup, aLst, aNeg, aIx, aIn, aEq, aNe, aIsN, aNotN, aAsg, agTup, agCons, agNil, agName, aPar, aAug, aInt, aI1, aI2, aLen, aPart, aNoP, aSlT, aSlL, aIxO, aBor, aApp, aPut, aCallM, aCallT, aYes, aLc, aItL, aItT, aItEnT, aItEnL, aItZip, aCallK, aCatL, aCatT, aStar, aExt, aPar3, aLtT, aRepr, aRng1, aRng2, aFor, wipeS, aTupl, aList, aListRange1, aPowW, aLt, aLe, aGt, aGe,
  aIntsT_tup, aInts_lst, aBls_lst, fSum,
  Sl.d, endsD, endsM, startS, List.map, List.length_cons, List.length_nil, List.length_replicate, List.length_append, List.cons_append, List.nil_append, List.replicate, List.getElem?_cons_zero, List.getElem?_cons_succ, List.getElem?_nil, List.set_cons_zero, List.set_cons_succ, List.set_nil, Nat.zero_add, Nat.reduceAdd, Nat.reduceSub, seqD, lstD, isi, isN, eqS, flatD, if_true, if_false, ite_true, ite_false, reduceIte, Bool.false_eq_true, true_and, and_true, reduceCtorEq, at2_0, at2_1, at3_0, at3_1, at3_2, ix3_0, ix3_2, dec_t, Bool.not_true, Bool.not_false])
abbrev A_are_counts : AS := (aSeq (aIfS (aOr (aNot (aTest (aIsi .tuple (aVar 0)))) (aNot (aTest (aChain aLe aLe (aVar 1) (aCall aLen (aCons (aVar 0) aNil)) (aC (.int 1000)))))) (aRet (aC (.bl false))) aNext)
  (aRet (aCall (aBls fun bs => bs.all id) (aCons (aLc (aItT (aVar 0)) (agName 2) aYes (aCall (aFn 3 S_is_within) (aCons (aVar 2) (aCons (aC (.int 0)) (aCons (aC (.int 4)) aNil)))) [2]) aNil))))
theorem law_are_counts : ∀ ds Q, ds.length = 2 → S_are_counts ds Q → A_are_counts (endsD Q) (startS 3 (ds.map .pu)) := by
  intro ds Q hl h
  obtain ⟨cs, l, rfl, ⟨h1, h2⟩, h3, h⟩ := h
  walk_at "d"
  rw [List.length_map]
  have e1 : decide (l ≤ (cs.length : Int)) = true := decide_eq_true h3
  have e2 : decide ((cs.length : Int) ≤ 1000) = true := decide_eq_true (by omega)
  refine ite2 (fun _ => ?_) (fun c => absurd h3 c)
  rw [e2]
  walk_at "d"
  intro q
  refine lc_pure (i := 2) rfl (fun _ => .bl true) _ [] _ (fun d hd R hR => ?_) (by rw [List.length_map]; simp only [List.length_nil]; omega) ?_
  · obtain ⟨c, hc, rfl⟩ := List.mem_map.mp hd
    walk_at "d"
    refine ⟨_, _, _, rfl, trivial, ?_⟩
    have e : withinD (D.int c) 0 4 = true := by
      obtain ⟨g1, g2⟩ := h2 c hc
      simp [withinD, g1, g2]
    rw [e]
    exact hR
  · have e : (cs.map D.int).map (fun _ => D.bl true) = (List.replicate cs.length true).map D.bl := by
      rw [List.map_replicate, List.map_const', List.length_map]
    rw [List.nil_append, e]
    walk_at "d"
    have e2 : (List.replicate cs.length true).all id = true := by
      rw [List.all_eq_true]
      intro x hx
      rw [(List.mem_replicate.mp hx).2]
      rfl
    rw [e2]
    exact h
abbrev A_check_arrivals : AS := (aIfS (aOr (aNot (aTest (aCall (aFn 2 S_are_counts) (aCons (aVar 0) (aCons (aC (.int 0)) aNil))))) (aNot (aTest (aCall (aFn 2 S_are_counts) (aCons (aVar 1) (aCons (aC (.int 1)) aNil)))))) aNev aNext)
theorem law_check_arrivals : ∀ ds Q, ds.length = 2 → S_check_arrivals ds Q → A_check_arrivals (endsD Q) (startS 2 (ds.map .pu)) := by
  intro ds Q hl h
  obtain ⟨fs, as, rfl, ⟨h1, h2, h3⟩, h⟩ := h
  walk_at "d"
  refine ⟨fs, 0, rfl, h1, by omega, ?_⟩
  walk_at "d"
  refine ⟨as, 1, rfl, h2, by omega, ?_⟩
  walk_at "d"
  exact h
abbrev A_check_slot : AS := (aSeq (aDrop (aCall (aFn 2 S_check_arrivals) (aCons (aVar 0) (aCons (aVar 1) aNil))))
  (aIfS (aNot (aTest (aCall (aFn 3 S_is_within) (aCons (aVar 2) (aCons (aC (.int 0)) (aCons (aC (.int 1000000000000000000)) aNil)))))) aNev aNext))
theorem law_check_slot : ∀ ds Q, ds.length = 3 → S_check_slot ds Q → A_check_slot (endsD Q) (startS 3 (ds.map .pu)) := by
  intro ds Q hl h
  obtain ⟨fs, as, t, rfl, h1, h2, h⟩ := h
  walk_at "d"
  refine ⟨fs, as, rfl, h1, ?_⟩
  walk_at "d"
  refine ⟨_, _, _, rfl, trivial, ?_⟩
  have e : withinD (D.int t) 0 1000000000000000000 = true := by
    simp only [withinD, Bool.and_eq_true, decide_eq_true_eq]
    omega
  rw [e]
  walk_at "d"
  exact h
abbrev A_run : AS := (aSeq (aFor (aItT (aVar 1)) (agName 2) (aSet 0 (aCall (aI2 maxI) (aCons (aC (.int 0)) (aCons (aSub (aAdd (aVar 0) (aVar 2)) (aC (.int 1))) aNil)))))
  (aRet (aVar 0)))
theorem law_run : ∀ ds Q, ds.length = 2 → S_run ds Q → A_run (endsD Q) (startS 3 (ds.map .pu)) := by
  intro ds Q hl h
  obtain ⟨w, cs, rfl, h⟩ := h
  walk_at "d"
  refine for_inv (fun ds s => ∃ (bs : List Int) (w' : Int) (c : Sl), ds = bs.map D.int ∧ s = [.pu (.int w'), .pu (tupI cs), c] ∧ runW w' bs = runW w cs) _ _ ⟨cs, w, .no, rfl, rfl, rfl⟩ ?_ ?_
  · rintro s ⟨bs, w', c, e, rfl, e2⟩
    have : bs = [] := by
      cases bs with
      | nil => rfl
      | cons b bs => cases e
    subst this
    walk_at "d"
    rw [runW_nil] at e2
    rw [e2]
    exact h
  · rintro d ds s ⟨bs, w', c, e, rfl, e2⟩ B hB
    cases bs with
    | nil => cases e
    | cons b bs =>
      cases e
      walk_at "d"
      exact hB _ ⟨bs, _, _, rfl, rfl, e2⟩
abbrev A_lap_waits : AS := (aSeq (aSet 3 (aCall (aFn 2 S_run) (aCons (aC (.int 0)) (aCons (aVar 0) aNil))))
  (aSeq (aIfS (aTest (aOp aEq (aVar 2) (aC (.int 0)))) (aRet (aVar 3)) aNext)
  (aSeq (aSet 4 (aSub (aCall (aIntsT fSum) (aCons (aVar 1) aNil)) (aCall aLen (aCons (aVar 1) aNil))))
  (aRet (aCall (aI2 maxI) (aCons (aAdd (aVar 3) (aMul (aVar 2) (aVar 4))) (aCons (aAdd (aCall (aFn 2 S_run) (aCons (aC (.int 0)) (aCons (aVar 1) aNil))) (aCall (aI2 maxI) (aCons (aC (.int 0)) (aCons (aMul (aSub (aVar 2) (aC (.int 1))) (aVar 4)) aNil)))) aNil)))))))
theorem law_lap_waits : ∀ ds Q, ds.length = 3 → S_lap_waits ds Q → A_lap_waits (endsD Q) (startS 5 (ds.map .pu)) := by
  intro ds Q hl h
  obtain ⟨fs, as, k, rfl, hA, hk, h⟩ := h
  have e0 : runW 0 fs = lapW fs as 0 := by
    unfold lapW
    rw [Nat.zero_mul, Nat.add_zero, w_first _ (Nat.le_refl _), List.take_length]
  walk_at "d"
  refine ⟨0, fs, rfl, ?_⟩
  walk_at "d"
  cases k with
  | zero =>
    walk_at "d"
    refine ite2 (fun _ => ?_) (fun c => absurd rfl c)
    walk_at "d"
    rw [e0]
    exact h
  | succ k =>
    refine ite2 (fun c => absurd c (by simp [eqF]; omega)) (fun _ => ?_)
    walk_at "d"
    rw [List.length_map]
    refine ⟨.inl ⟨by omega, by omega⟩, 0, as, rfl, ?_⟩
    walk_at "d"
    refine ⟨.inl ⟨by omega, by omega⟩, ?_⟩
    have c := lapW_closed hA k
    have e1 : (((k + 1 : Nat) : Int) - 1) = (k : Int) := by omega
    have e2 : as.sum - (as.length : Int) = mr as := rfl
    rw [e1, e2, e0]
    have e3 : maxI (lapW fs as 0 + ((k + 1 : Nat) : Int) * mr as) (runW 0 as + maxI 0 ((k : Int) * mr as)) = lapW fs as (k + 1) := by
      rw [c]
      unfold maxI
      split <;> split <;> omega
    rw [e3]
    exact h
abbrev A_spot_of : AS := (aSeq (aIfS (aTest (aOp aLt (aVar 2) (aCall aLen (aCons (aVar 0) aNil)))) (aRet (aTup (aCons (aNeg (aC (.int 1))) (aCons (aVar 2) aNil)))) aNext)
  (aRet (aTup (aCons (aDiv (aSub (aVar 2) (aCall aLen (aCons (aVar 0) aNil))) (aCall aLen (aCons (aVar 1) aNil))) (aCons (aMod (aSub (aVar 2) (aCall aLen (aCons (aVar 0) aNil))) (aCall aLen (aCons (aVar 1) aNil))) aNil)))))
theorem law_spot_of : ∀ ds Q, ds.length = 3 → S_spot_of ds Q → A_spot_of (endsD Q) (startS 3 (ds.map .pu)) := by
  intro ds Q hl h
  obtain ⟨fs, as, t, rfl, hA, h1, h2⟩ := h
  walk_at "d"
  rw [List.length_map, List.length_map]
  refine ite2 (fun c => ⟨by decide, h1 (by omega)⟩) (fun c => ?_)
  have l1 : 0 < as.length := hA.2.2
  have l2 : as.length ≤ 1000 := hA.2.1.1
  refine ⟨cdiv (by omega) (by omega), by omega, by decide, ?_⟩
  have e1 : ((t : Int) - (fs.length : Int)) = ((t - fs.length : Nat) : Int) := by omega
  rw [e1, ← Int.natCast_ediv, ← Int.natCast_emod]
  refine h2 _ _ ?_ (Nat.mod_lt _ l1)
  have := Nat.div_add_mod (t - fs.length) as.length
  rw [Nat.mul_comm] at this
  omega
abbrev A_count_of : AS := (aSeq (aAsg (aCall (aFn 3 S_spot_of) (aCons (aVar 0) (aCons (aVar 1) (aCons (aVar 2) aNil)))) (agTup (agCons (agName 3) (agCons (agName 4) agNil))))
  (aRet (aIf (aTest (aOp aLt (aVar 3) (aC (.int 0)))) (aOp aIx (aVar 0) (aVar 4)) (aOp aIx (aVar 1) (aVar 4)))))
theorem law_count_of : ∀ ds Q, ds.length = 3 → S_count_of ds Q → A_count_of (endsD Q) (startS 5 (ds.map .pu)) := by
  intro ds Q hl h
  obtain ⟨fs, as, t, rfl, hA, h⟩ := h
  walk_at "d"
  refine ⟨fs, as, t, rfl, hA, fun ht => ?_, fun k n ht hn => ?_⟩
  · walk_at "d"
    refine ite2 (fun _ => ?_) (fun c => absurd (by decide) c)
    rw [at_int ht, ← cnt_first (as := as) ht]
    exact h
  · walk_at "d"
    refine ite2 (fun c => absurd c (by omega)) (fun _ => ?_)
    rw [at_int hn, ← cnt_lap (fs := fs) k n hn, ← ht]
    exact h
abbrev A_waits_ahead : AS := (aSeq (aAsg (aCall (aFn 3 S_spot_of) (aCons (aVar 0) (aCons (aVar 1) (aCons (aVar 2) aNil)))) (agTup (agCons (agName 3) (agCons (agName 4) agNil))))
  (aSeq (aIfS (aTest (aOp aLt (aVar 3) (aC (.int 0)))) (aRet (aCall (aFn 2 S_run) (aCons (aC (.int 0)) (aCons (aSlT (aVar 0) aNoP (aPart (aVar 4))) aNil)))) aNext)
  (aRet (aCall (aFn 2 S_run) (aCons (aCall (aFn 3 S_lap_waits) (aCons (aVar 0) (aCons (aVar 1) (aCons (aVar 3) aNil)))) (aCons (aSlT (aVar 1) aNoP (aPart (aVar 4))) aNil))))))
theorem law_waits_ahead : ∀ ds Q, ds.length = 3 → S_waits_ahead ds Q → A_waits_ahead (endsD Q) (startS 5 (ds.map .pu)) := by
  intro ds Q hl h
  obtain ⟨fs, as, t, rfl, hA, hf, h⟩ := h
  unfold FarOk at hf
  walk_at "d"
  refine ⟨fs, as, t, rfl, hA, fun ht => ?_, fun k n ht hn => ?_⟩
  · walk_at "d"
    refine ite2 (fun _ => ?_) (fun c => absurd (by decide) c)
    walk_at "d"
    rw [cut_int]
    refine ⟨0, fs.take t, rfl, ?_⟩
    walk_at "d"
    rw [← w_first (as := as) t (by omega)]
    exact h
  · walk_at "d"
    refine ite2 (fun c => absurd c (by omega)) (fun _ => ?_)
    walk_at "d"
    have hk : k < 18446744073709551616 := by
      have h1 : k * as.length < 18446744073709551616 * as.length := by omega
      exact Nat.lt_of_mul_lt_mul_right h1
    refine ⟨fs, as, k, rfl, hA, hk, ?_⟩
    walk_at "d"
    rw [cut_int]
    refine ⟨_, as.take n, rfl, ?_⟩
    walk_at "d"
    have e := w_lap (fs := fs) (as := as) k n (by omega)
    unfold lapW
    rw [← e, ← ht]
    exact h
end K43

namespace K43
open PySem L2 DL FM
local macro_rules | `(tactic| walk_at "d") => `(tactic| try simp (config := { maxSteps := 3000000 }) only [aSeq, aSet, aVar, aMov, aC, aOp, aI, aIC, aB, aAnd, aOr, aNot, aTest, aIf, aAndV, aOrV, aNotV, aChain, aIsi, aCall, aCons, aNil, aRet, aRetN, aNext, aDrop, aIfS, aNev, aFn, aTup, aLst, aNeg, aIx, aIn, aEq, aNe, aIsN, aNotN, aAsg, agTup, agCons, agNil, agName, aPar, aAug, aInt, aI1, aI2, aLen, aPart, aNoP, aSlT, aSlL, aIxO, aBor, aApp, aPut, aCallM, aCallT, aYes, aLc, aItL, aItT, aItEnT, aItEnL, aItZip, aCallK, aCatL, aCatT, aStar, aExt, aPar3, aLtT, aRepr, aRng1, aRng2, aFor, wipeS, aTupl, aList, aListRange1, aPowW, aLt, aLe, aGt, aGe,
  aIntsT_tup, aInts_lst, aBls_lst, fSum,
  Sl.d, endsD, endsM, startS, List.map, List.length_cons, List.length_nil, List.length_replicate, List.length_append, List.cons_append, List.nil_append, List.replicate, List.getElem?_cons_zero, List.getElem?_cons_succ, List.getElem?_nil, List.set_cons_zero, List.set_cons_succ, List.set_nil, Nat.zero_add, Nat.reduceAdd, Nat.reduceSub, seqD, lstD, isi, isN, eqS, flatD, if_true, if_false, ite_true, ite_false, reduceIte, Bool.false_eq_true, true_and, and_true, reduceCtorEq, at2_0, at2_1, at3_0, at3_1, at3_2, ix3_0, ix3_2, dec_t, Bool.not_true, Bool.not_false])
theorem far18 {fs as : List Int} {t : Nat} (hA : Arr fs as) (h : t ≤ 1000000000000000000) : FarOk fs as t := by
  have := hA.2.2
  unfold FarOk
  omega
abbrev A_delay_at : AS := (aSeq (aDrop (aCall (aFn 3 S_check_slot) (aCons (aVar 0) (aCons (aVar 1) (aCons (aVar 2) aNil)))))
  (aSeq (aIfS (aNot (aTest (aCall (aFn 3 S_is_within) (aCons (aVar 3) (aCons (aC (.int 0)) (aCons (aSub (aCall (aFn 3 S_count_of) (aCons (aVar 0) (aCons (aVar 1) (aCons (aVar 2) aNil)))) (aC (.int 1))) aNil)))))) aNev aNext)
  (aRet (aAdd (aCall (aFn 3 S_waits_ahead) (aCons (aVar 0) (aCons (aVar 1) (aCons (aVar 2) aNil)))) (aVar 3)))))
theorem law_delay_at : ∀ ds Q, ds.length = 4 → S_delay_at ds Q → A_delay_at (endsD Q) (startS 4 (ds.map .pu)) := by
  intro ds Q hl h
  obtain ⟨fs, as, t, p, rfl, hA, ht, p0, p1, h⟩ := h
  walk_at "d"
  refine ⟨fs, as, t, rfl, hA, ht, ?_⟩
  walk_at "d"
  refine ⟨fs, as, t, rfl, hA, ?_⟩
  walk_at "d"
  refine ⟨_, _, _, rfl, trivial, ?_⟩
  have e : withinD (D.int p) 0 (cnt fs as t - 1) = true := by
    simp only [withinD, Bool.and_eq_true, decide_eq_true_eq]
    omega
  rw [e]
  walk_at "d"
  refine ⟨fs, as, t, rfl, hA, far18 hA ht, ?_⟩
  walk_at "d"
  exact h
end K43

namespace K43
open PySem L2 DL FM
local macro_rules | `(tactic| walk_at "d") => `(tactic| try simp (config := { maxSteps := 3000000 }) only [aSeq, aSet, aVar, aMov, aC, aOp, aI, aIC, aB, aAnd, aOr, aNot, aTest, aIf, aAndV, aOrV, aNotV, aChain, aIsi, aCall, aCons, aNil, aRet, aRetN, aNext, aDrop, aIfS, aNev, aFn, aTup, aLst, aNeg, aIx, aIn, aEq, aNe, aIsN, aNotN, aAsg, agTup, agCons, agNil, agName, aPar, aAug, aInt, aI1, aI2, aLen, aPart, aNoP, aSlT, aSlL, aIxO, aBor, aApp, aPut, aCallM, aCallT, aYes, aLc, aItL, aItT, aItEnT, aItEnL, aItZip, aCallK, aCatL, aCatT, aStar, aExt, aPar3, aLtT, aRepr, aRng1, aRng2, aFor, wipeS, aTupl, aList, aListRange1, aPowW, aLt, aLe, aGt, aGe,
  aIntsT_tup, aInts_lst, aBls_lst, fSum,
  Sl.d, endsD, endsM, startS, List.map, List.length_cons, List.length_nil, List.length_replicate, List.length_append, List.cons_append, List.nil_append, List.replicate, List.getElem?_cons_zero, List.getElem?_cons_succ, List.getElem?_nil, List.set_cons_zero, List.set_cons_succ, List.set_nil, Nat.zero_add, Nat.reduceAdd, Nat.reduceSub, seqD, lstD, isi, isN, eqS, flatD, if_true, if_false, ite_true, ite_false, reduceIte, Bool.false_eq_true, true_and, and_true, reduceCtorEq, at2_0, at2_1, at3_0, at3_1, at3_2, ix3_0, ix3_2, dec_t, Bool.not_true, Bool.not_false])
theorem maxI0 (x : Int) : maxI 0 x = max 0 x := by
  unfold maxI
  split <;> omega
abbrev A__law_count : AS := (aRet (aIf (aTest (aOp aLt (aVar 2) (aCall aLen (aCons (aVar 0) aNil)))) (aOp aIx (aVar 0) (aVar 2)) (aOp aIx (aVar 1) (aMod (aSub (aVar 2) (aCall aLen (aCons (aVar 0) aNil))) (aCall aLen (aCons (aVar 1) aNil))))))
theorem law__law_count : ∀ ds Q, ds.length = 3 → S__law_count ds Q → A__law_count (endsD Q) (startS 3 (ds.map .pu)) := by
  intro ds Q hl h
  obtain ⟨fs, as, t, rfl, hA, h⟩ := h
  walk_at "d"
  rw [List.length_map, List.length_map]
  have l1 : 0 < as.length := hA.2.2
  refine ite2 (fun c => ?_) (fun c => ?_)
  · have ht : t < fs.length := by omega
    rw [at_int ht, ← cnt_first (as := as) ht]
    exact h
  · refine ⟨by omega, ?_⟩
    have e1 : ((t : Int) - (fs.length : Int)) = ((t - fs.length : Nat) : Int) := by omega
    rw [e1, ← Int.natCast_emod, at_int (Nat.mod_lt _ l1)]
    unfold cnt at h
    rw [if_neg (by omega)] at h
    exact h
abbrev A__law_waits : AS := (aSeq (aSet 3 (aLst (aCons (aC (.int 0)) aNil)))
  (aSeq (aFor (aRng1 (aCons (aVar 2) aNil)) (agName 4) (aApp 3 (aCall (aI2 maxI) (aCons (aC (.int 0)) (aCons (aSub (aAdd (aIxO 3 (aNeg (aC (.int 1)))) (aCall (aFn 3 S__law_count) (aCons (aVar 0) (aCons (aVar 1) (aCons (aVar 4) aNil))))) (aC (.int 1))) aNil)))))
  (aRet (aVar 3))))
theorem law__law_waits : ∀ ds Q, ds.length = 3 → S__law_waits ds Q → A__law_waits (endsD Q) (startS 5 (ds.map .pu)) := by
  intro ds Q hl h
  obtain ⟨fs, as, n, rfl, hA, hn, h⟩ := h
  walk_at "d"
  refine ⟨by decide, fun p => ⟨by omega, by omega, ?_⟩⟩
  rw [Int.toNat_natCast, rngD_K]
  refine for_inv (fun ds s => ∃ (k : Nat) (c : Sl), ds = rngK k (n - k) ∧ k ≤ n ∧ s = [.pu (tupI fs), .pu (tupI as), .pu (.int n), .ow p ((wList fs as k).map D.int), c]) _ _ ⟨0, .no, rfl, by omega, rfl⟩ ?_ ?_
  · rintro s ⟨k, c, e, hk, rfl⟩
    have ek : k = n := by
      by_cases c : k < n
      · rw [show n - k = (n - k - 1) + 1 by omega, rngK_succ] at e
        cases e
      · omega
    subst ek
    walk_at "d"
    exact h
  · rintro d ds s ⟨k, c, e, hk, rfl⟩ B hB
    by_cases c : k < n
    · rw [show n - k = (n - (k + 1)) + 1 by omega, rngK_succ] at e
      cases e
      walk_at "d"
      unfold wList
      rw [at_rng_last]
      refine ⟨fs, as, k, rfl, hA, ?_⟩
      walk_at "d"
      rw [List.length_map, List.length_map, List.length_range]
      refine ⟨by omega, hB _ ⟨k + 1, .pu (.int k), rfl, c, ?_⟩⟩
      unfold wList
      rw [rng_snoc, List.map_append]
      have e3 : maxI 0 (wAt fs as k + cnt fs as k - 1) = wAt fs as (k + 1) := rfl
      rw [e3]
      rfl
    · rw [show n - k = 0 by omega, rngK_zero] at e
      cases e
abbrev A__law_laps : AS := (aSeq (aSet 2 (aAdd (aAdd (aMul (aC (.int 4)) (aCall aLen (aCons (aVar 0) aNil))) (aMul (aC (.int 3)) (aCall aLen (aCons (aVar 1) aNil)))) (aC (.int 8))))
  (aSeq (aSet 3 (aCall (aFn 3 S__law_waits) (aCons (aVar 0) (aCons (aVar 1) (aCons (aAdd (aCall aLen (aCons (aVar 0) aNil)) (aMul (aVar 2) (aCall aLen (aCons (aVar 1) aNil)))) aNil)))))
  (aSeq (aSet 5 (aLc (aRng1 (aCons (aAdd (aVar 2) (aC (.int 1))) aNil)) (agName 4) aYes (aCall aInt (aCons (aOp aIx (aVar 3) (aAdd (aCall aLen (aCons (aVar 0) aNil)) (aMul (aVar 4) (aCall aLen (aCons (aVar 1) aNil))))) aNil)) [4]))
  (aSeq (aSet 6 (aCall (aI2 maxI) (aCons (aC (.int 0)) (aCons (aSub (aCall (aIntsT fSum) (aCons (aVar 1) aNil)) (aCall aLen (aCons (aVar 1) aNil))) aNil))))
  (aSeq (aSet 4 (aVar 2))
  (aSeq (aWhile (aAnd (aTest (aOp aGt (aVar 4) (aC (.int 0)))) (aTest (aOp aEq (aSub (aOp aIx (aVar 5) (aVar 4)) (aOp aIx (aVar 5) (aSub (aVar 4) (aC (.int 1))))) (aVar 6)))) (aSet 4 (aSub (aVar 4) (aC (.int 1)))))
  (aRet (aIf (aTest (aOp aGt (aVar 6) (aC (.int 0)))) (aTup (aCons (aC (.str "grows")) (aCons (aCall aInt (aCons (aVar 4) aNil)) (aCons (aCall aInt (aCons (aVar 6) aNil)) (aCons (aVar 5) aNil))))) (aTup (aCons (aC (.str "round")) (aCons (aCall aInt (aCons (aVar 4) aNil)) (aCons (aCall aInt (aCons (aOp aIx (aVar 5) (aVar 4)) aNil)) (aCons (aVar 5) aNil)))))))))))))
theorem law__law_laps : ∀ ds Q, ds.length = 2 → S__law_laps ds Q → A__law_laps (endsD Q) (startS 7 (ds.map .pu)) := by
  intro ds Q hl h
  obtain ⟨fs, as, rfl, ⟨hA, s1, s2⟩, h⟩ := h
  obtain ⟨M, hM⟩ : ∃ M : Nat, M = 4 * fs.length + 3 * as.length + 8 := ⟨_, rfl⟩
  have hb : M * as.length ≤ 66 * 6 := Nat.mul_le_mul (by omega) s2
  unfold A__law_laps
  refine seq_cut [.pu (tupI fs), .pu (tupI as), .pu (.int M), .no, .no, .no, .no] (fun B hB => ?_) ?_
  · walk_at "d"
    rw [List.length_map, List.length_map]
    refine ⟨cmul_l (by decide) (by decide), cmul_l (by decide) (by decide), ?_⟩
    have e : 4 * (fs.length : Int) + 3 * (as.length : Int) + 8 = (M : Int) := by omega
    rw [e]
    exact hB
  obtain ⟨N, hN⟩ : ∃ N : Nat, N = fs.length + M * as.length := ⟨_, rfl⟩
  refine seq_cut [.pu (tupI fs), .pu (tupI as), .pu (.int M), .pu (lstI (wList fs as N)), .no, .no, .no] (fun B hB => ?_) ?_
  · walk_at "d"
    rw [List.length_map, List.length_map]
    refine ⟨cmul_l (by omega) (by omega), fs, as, N, ?_, hA, by omega, hB⟩
    rw [hN, Int.natCast_add, Int.natCast_mul]
  refine seq_cutR (fun s => ∃ p, s = [.pu (tupI fs), .pu (tupI as), .pu (.int M), .pu (lstI (wList fs as N)), .no, .ow p ((rowsL fs as M).map D.int), .no]) (fun B hB => ?_) ?_
  · walk_at "d"
    refine ⟨by omega, by omega, fun p => ?_⟩
    have et : ((M : Int) + 1).toNat = M + 1 := by omega
    rw [et, rngD_K]
    refine lc_pure (i := 4) rfl (fun d => match d with | .int k => .int (lapW fs as k.toNat) | d => d) _ [] _ (fun d hd R hR => ?_) (by rw [rngK_len]; simp only [List.length_nil]; omega) ?_
    · obtain ⟨k, hk, rfl⟩ := List.mem_map.mp hd
      have hk2 := (List.mem_range'_1.mp hk).2
      walk_at "d"
      rw [List.length_map, List.length_map]
      refine ⟨cmul_l (by omega) (by omega), ?_⟩
      have hle : k * as.length ≤ M * as.length := Nat.mul_le_mul_right _ (by omega)
      have e : (fs.length : Int) + (k : Int) * (as.length : Int) = ((fs.length + k * as.length : Nat) : Int) := by
        rw [Int.natCast_add, Int.natCast_mul]
      rw [e]
      unfold wList
      rw [at_rng _ (by omega)]
      exact hR
    · refine hB _ ⟨p, ?_⟩
      have e : (rngK 0 (M + 1)).map (fun d => match d with | .int k => .int (lapW fs as k.toNat) | d => d) = (rowsL fs as M).map D.int := by
        unfold rngK rowsL
        rw [List.range_eq_range', List.map_map, List.map_map]
        rfl
      rw [List.nil_append, e]
      rfl
  rintro s ⟨p, rfl⟩
  refine seq_cut [.pu (tupI fs), .pu (tupI as), .pu (.int M), .pu (lstI (wList fs as N)), .no, .ow p ((rowsL fs as M).map D.int), .pu (.int (max 0 (mr as)))] (fun B hB => ?_) ?_
  · walk_at "d"
    rw [List.length_map, maxI0]
    exact hB
  refine seq_cut [.pu (tupI fs), .pu (tupI as), .pu (.int M), .pu (lstI (wList fs as N)), .pu (.int M), .ow p ((rowsL fs as M).map D.int), .pu (.int (max 0 (mr as)))] (fun B hB => ?_) ?_
  · walk_at "d"
    exact hB
  have fl := w_first_le hA
  refine seq_cutR (fun s => ∃ (L : Nat) (r : Sl), s = [.pu (tupI fs), .pu (tupI as), .pu (.int M), .pu (lstI (wList fs as N)), .pu (.int L), r, .pu (.int (max 0 (mr as)))] ∧ (r = .ow p ((rowsL fs as M).map D.int) ∨ r = .pu (lstI (rowsL fs as M))) ∧ L ≤ M ∧ (∀ k, L ≤ k → k < M → lapW fs as (k + 1) - lapW fs as k = max 0 (mr as)) ∧ (L = 0 ∨ lapW fs as L - lapW fs as (L - 1) ≠ max 0 (mr as))) (fun B hB => ?_) ?_
  · unfold aWhile
    refine ⟨fun m s => ∃ (r : Sl), s = [.pu (tupI fs), .pu (tupI as), .pu (.int M), .pu (lstI (wList fs as N)), .pu (.int m), r, .pu (.int (max 0 (mr as)))] ∧ (r = .ow p ((rowsL fs as M).map D.int) ∨ r = .pu (lstI (rowsL fs as M))) ∧ m ≤ M ∧ (∀ k, m ≤ k → k < M → lapW fs as (k + 1) - lapW fs as k = max 0 (mr as)), ⟨M, _, rfl, .inl rfl, Nat.le_refl _, fun k h1 h2 => by omega⟩, ?_⟩
    rintro m s ⟨r, rfl, hr, hm, ha⟩
    cases m with
    | zero =>
      walk_at "d"
      refine ite2 (fun c => absurd c (by decide)) fun _ => ?_
      exact hB _ ⟨0, r, rfl, hr, hm, ha, .inl rfl⟩
    | succ m =>
      have e1 : (((m + 1 : Nat) : Int) - 1) = (m : Int) := by omega
      have key : ∀ r2, (r2 = .ow p ((rowsL fs as M).map D.int) ∨ r2 = .pu (lstI (rowsL fs as M))) → (if lapW fs as (m + 1) - lapW fs as m = max 0 (mr as) then ∃ m' : Nat, m' < m + 1 ∧ ∃ (r : Sl), [.pu (tupI fs), .pu (tupI as), .pu (.int M), .pu (lstI (wList fs as N)), .pu (.int (m : Int)), r2, .pu (.int (max 0 (mr as)))] = [.pu (tupI fs), .pu (tupI as), .pu (.int M), .pu (lstI (wList fs as N)), .pu (.int m'), r, .pu (.int (max 0 (mr as)))] ∧ (r = .ow p ((rowsL fs as M).map D.int) ∨ r = .pu (lstI (rowsL fs as M))) ∧ m' ≤ M ∧ (∀ k, m' ≤ k → k < M → lapW fs as (k + 1) - lapW fs as k = max 0 (mr as))
          else B [.pu (tupI fs), .pu (tupI as), .pu (.int M), .pu (lstI (wList fs as N)), .pu (.int ((m + 1 : Nat) : Int)), r2, .pu (.int (max 0 (mr as)))]) := fun r2 hr2 => by
        refine ite2 (fun c => ?_) fun c => ?_
        · have c2 := c
          refine ⟨m, by omega, r2, rfl, hr2, by omega, fun k h1 h2 => ?_⟩
          by_cases hk : k = m
          · rw [hk]
            exact c2
          · exact ha k (by omega) h2
        · have c2 := c
          exact hB _ ⟨m + 1, r2, rfl, hr2, hm, ha, .inr c2⟩
      rcases hr with rfl | rfl
      all_goals
        walk_at "d"
        refine ite2 (fun _ => ?_) fun c => absurd (show (0 : Int) < ((m + 1 : Nat) : Int) by omega) c
        have hk := key (.pu (lstI (rowsL fs as M))) (.inr rfl)
        unfold rowsL at hk ⊢
        rw [e1, at_rng _ hm, at_rng _ (show m ≤ M by omega)]
        exact hk
  rintro s ⟨L, r, rfl, hr, hL, ha, hmin⟩
  have all : ∀ k, L ≤ k → lapW fs as (k + 1) - lapW fs as k = max 0 (mr as) := fun k hk => by
    by_cases c : k < M
    · exact ha k hk c
    · exact lapW_far hA k (by omega) (by omega)
  by_cases hm : 0 < mr as
  · have em : max 0 (mr as) = mr as := by omega
    have fin : ∀ d, d = D.tup [.str "grows", .int L, .int (mr as), lstI (rowsL fs as M)] → Q (.pu d) := fun d e => h d ⟨"grows", L, mr as, M, e, hL, all, hmin, .inl ⟨hm, rfl, rfl⟩⟩
    have hfin := fin _ rfl
    rcases hr with rfl | rfl
    all_goals
      walk_at "d"
      rw [em]
      refine ite2 (fun _ => ⟨by decide, ?_⟩) fun c => absurd hm c
      exact hfin
  · have em : max 0 (mr as) = 0 := by omega
    have fin : ∀ d, d = D.tup [.str "round", .int L, .int (lapW fs as L), lstI (rowsL fs as M)] → Q (.pu d) := fun d e => h d ⟨"round", L, lapW fs as L, M, e, hL, all, hmin, .inr ⟨by omega, rfl, rfl⟩⟩
    have hfin := fin _ rfl
    rcases hr with rfl | rfl
    all_goals
      walk_at "d"
      rw [em]
      refine ite2 (fun c => absurd c (by decide)) fun _ => ?_
      unfold rowsL at hfin ⊢
      rw [at_rng _ hL]
      exact ⟨by decide, hfin⟩
end K43

namespace K43
open PySem L2 DL FM
local macro_rules | `(tactic| walk_at "d") => `(tactic| try simp (config := { maxSteps := 3000000 }) only [aSeq, aSet, aVar, aMov, aC, aOp, aI, aIC, aB, aAnd, aOr, aNot, aTest, aIf, aAndV, aOrV, aNotV, aChain, aIsi, aCall, aCons, aNil, aRet, aRetN, aNext, aDrop, aIfS, aNev, aFn, aTup, aLst, aNeg, aIx, aIn, aEq, aNe, aIsN, aNotN, aAsg, agTup, agCons, agNil, agName, aPar, aAug, aInt, aI1, aI2, aLen, aPart, aNoP, aSlT, aSlL, aIxO, aBor, aApp, aPut, aCallM, aCallT, aYes, aLc, aItL, aItT, aItEnT, aItEnL, aItZip, aCallK, aCatL, aCatT, aStar, aExt, aPar3, aLtT, aRepr, aRng1, aRng2, aFor, wipeS, aTupl, aList, aListRange1, aPowW, aLt, aLe, aGt, aGe,
  aIntsT_tup, aInts_lst, aBls_lst, fSum,
  Sl.d, endsD, endsM, startS, List.map, List.length_cons, List.length_nil, List.length_replicate, List.length_append, List.cons_append, List.nil_append, List.replicate, List.getElem?_cons_zero, List.getElem?_cons_succ, List.getElem?_nil, List.set_cons_zero, List.set_cons_succ, List.set_nil, Nat.zero_add, Nat.reduceAdd, Nat.reduceSub, seqD, lstD, isi, isN, eqS, flatD, if_true, if_false, ite_true, ite_false, reduceIte, Bool.false_eq_true, true_and, and_true, reduceCtorEq, at2_0, at2_1, at3_0, at3_1, at3_2, ix3_0, ix3_2, dec_t, Bool.not_true, Bool.not_false])
end K43

namespace K43
open PySem L2 DL FM
local macro_rules | `(tactic| walk_at "d") => `(tactic| try simp (config := { maxSteps := 3000000 }) only [aSeq, aSet, aVar, aMov, aC, aOp, aI, aIC, aB, aAnd, aOr, aNot, aTest, aIf, aAndV, aOrV, aNotV, aChain, aIsi, aCall, aCons, aNil, aRet, aRetN, aNext, aDrop, aIfS, aNev, aFn, aTup, aLst, aNeg, aIx, aIn, aEq, aNe, aIsN, aNotN, aAsg, agTup, agCons, agNil, agName, aPar, aAug, aInt, aI1, aI2, aLen, aPart, aNoP, aSlT, aSlL, aIxO, aBor, aApp, aPut, aCallM, aCallT, aYes, aLc, aItL, aItT, aItEnT, aItEnL, aItZip, aCallK, aCatL, aCatT, aStar, aExt, aPar3, aLtT, aRepr, aRng1, aRng2, aFor, wipeS, aTupl, aList, aListRange1, aPowW, aLt, aLe, aGt, aGe,
  aIntsT_tup, aInts_lst, aBls_lst, fSum,
  Sl.d, endsD, endsM, startS, List.map, List.length_cons, List.length_nil, List.length_replicate, List.length_append, List.cons_append, List.nil_append, List.replicate, List.getElem?_cons_zero, List.getElem?_cons_succ, List.getElem?_nil, List.set_cons_zero, List.set_cons_succ, List.set_nil, Nat.zero_add, Nat.reduceAdd, Nat.reduceSub, seqD, lstD, isi, isN, eqS, flatD, if_true, if_false, ite_true, ite_false, reduceIte, Bool.false_eq_true, true_and, and_true, reduceCtorEq, at2_0, at2_1, at3_0, at3_1, at3_2, ix3_0, ix3_2, dec_t, Bool.not_true, Bool.not_false])
theorem sml {es : List Int} {e : D} (h : e ∈ es.map D.int) : ∃ c, e = .int c ∧ c ∈ es := by
  obtain ⟨c, hc, rfl⟩ := List.mem_map.mp h
  exact ⟨c, rfl, hc⟩
theorem mem_set {xs : List Int} {i : Nat} {v c : Int} (h : c ∈ xs.set i v) : c ∈ xs ∨ c = v := List.mem_or_eq_of_mem_set h
theorem ixN_nat {n k : Nat} (h : k < n) : ixN n (k : Int) = some k := by
  unfold ixN
  rw [if_pos (Int.natCast_nonneg k), if_pos (by omega)]
  rfl
abbrev A__law_arrivals : AS := (aSeq (aSet 1 (aCallM 2 0 S__law_of (aCons (aLst (aCons (aLst (aCons (aC (.int 0)) (aCons (aC (.int 0)) (aCons (aC (.int 1)) (aCons (aC (.int 2)) (aCons (aC (.int 3)) (aCons (aC (.int 4)) aNil))))))) (aCons (aLst (aCons (aC (.int 0)) (aCons (aC (.int 0)) (aCons (aC (.int 1)) aNil)))) (aCons (aLst (aCons (aC (.int 0)) (aCons (aC (.int 1)) (aCons (aC (.int 2)) aNil)))) aNil)))) aNil)))
  (aSeq (aSet 3 (aLc (aRng1 (aCons (aCallM 2 0 S__law_take (aCons (aCallM 2 0 S__law_of (aCons (aLst (aCons (aC (.int 11)) (aCons (aC (.int 4)) (aCons (aC (.int 1)) aNil)))) aNil)) aNil)) aNil)) (agName 2) aYes (aCall aInt (aCons (aCallM 2 0 S__law_of (aCons (aVar 1) aNil)) aNil)) [2]))
  (aSeq (aAsg (aTup (aCons (aAdd (aC (.int 1)) (aCallM 2 0 S__law_take (aCons (aC (.int 6)) aNil))) (aCons (aCallM 2 0 S__law_take (aCons (aC (.int 5)) aNil)) aNil))) (agTup (agCons (agName 4) (agCons (agName 5) agNil))))
  (aSeq (aSet 6 (aLc (aRng1 (aCons (aVar 4) aNil)) (agName 2) aYes (aCall aInt (aCons (aCallM 2 0 S__law_of (aCons (aOp aIx (aLst (aCons (aLst (aCons (aC (.int 0)) (aCons (aC (.int 0)) (aCons (aC (.int 1)) (aCons (aC (.int 2)) aNil))))) (aCons (aLst (aCons (aC (.int 1)) (aCons (aC (.int 1)) (aCons (aC (.int 2)) aNil)))) (aCons (aLst (aCons (aC (.int 0)) (aCons (aC (.int 1)) (aCons (aC (.int 2)) (aCons (aC (.int 4)) aNil))))) (aCons (aLst (aCons (aC (.int 0)) aNil)) (aCons (aLst (aCons (aC (.int 0)) (aCons (aC (.int 1)) (aCons (aC (.int 4)) aNil)))) aNil)))))) (aVar 5)) aNil)) aNil)) [2]))
  (aSeq (aIfS (aTest (aOp aEq (aCallM 2 0 S__law_take (aCons (aC (.int 3)) aNil)) (aC (.int 0)))) (aFor (aRng1 (aCons (aMul (aC (.int 4)) (aVar 4)) aNil)) (agName 2) (aSeq (aSet 7 (aCallM 2 0 S__law_take (aCons (aVar 4) aNil)))
  (aIfS (aAnd (aTest (aOp aGt (aBor (aInts fSum) 6) (aVar 4))) (aTest (aOp aGt (aIxO 6 (aVar 7)) (aC (.int 0))))) (aPut 6 (aSub (aIxO 6 (aVar 7)) (aC (.int 1))) (aVar 7)) (aIfS (aAnd (aTest (aOp aLt (aBor (aInts fSum) 6) (aVar 4))) (aTest (aOp aLt (aIxO 6 (aVar 7)) (aC (.int 4))))) (aPut 6 (aAdd (aIxO 6 (aVar 7)) (aC (.int 1))) (aVar 7)) aNext)))) aNext)
  (aRet (aTup (aCons (aCall aTupl (aCons (aVar 3) aNil)) (aCons (aCall aTupl (aCons (aVar 6) aNil)) aNil)))))))))
theorem law__law_arrivals : ∀ xs ds Q p, ds.length + 1 = 1 → S__law_arrivals xs ds Q → A__law_arrivals (endsM Q p) (startS 8 (.ow p xs :: ds.map .pu)) := by
  intro xs ds Q p hl h
  obtain ⟨c, rfl, hc, hcb, h⟩ := h
  unfold A__law_arrivals
  refine seq_cutR (fun s => ∃ (ys : List D) (es : List Int), s = [.ow p ys, .pu (lstI es), .no, .no, .no, .no, .no, .no] ∧ Pot (c + 1) ys ∧ es ≠ [] ∧ es.length ≤ 10 ∧ ∀ e ∈ es, 0 ≤ e ∧ e ≤ 4) (fun B hB => ?_) ?_
  · walk_at "d"
    refine ⟨by decide, fun _ => ⟨by decide, fun _ => ⟨by decide, fun _ => ⟨by decide, fun _ => ⟨_, c, .inl rfl, by simp, by decide, by omega, hc, fun e ys he hy => ?_⟩⟩⟩⟩⟩
    have hn : ∃ es : List Int, e = lstI es ∧ es ≠ [] ∧ es.length ≤ 10 ∧ ∀ e ∈ es, 0 ≤ e ∧ e ≤ 4 := by
      simp only [List.mem_cons, List.mem_nil_iff, or_false] at he
      rcases he with rfl | rfl | rfl
      · exact ⟨[0, 0, 1, 2, 3, 4], rfl, by decide, by decide, by decide⟩
      · exact ⟨[0, 0, 1], rfl, by decide, by decide, by decide⟩
      · exact ⟨[0, 1, 2], rfl, by decide, by decide, by decide⟩
    obtain ⟨es, rfl, e1, e2, e3⟩ := hn
    exact hB _ ⟨ys, es, rfl, hy, e1, e2, e3⟩
  rintro s ⟨ys, es, rfl, hy, es0, es1, es2⟩
  refine seq_cutR (fun s => ∃ (zs : List D) (q : Addr) (fs : List Int), s = [.ow p zs, .pu (lstI es), .no, .ow q (fs.map D.int), .no, .no, .no, .no] ∧ Pot (c + 15) zs ∧ fs.length ≤ 10 ∧ ∀ e ∈ fs, 0 ≤ e ∧ e ≤ 4) (fun B hB => ?_) ?_
  · walk_at "d"
    refine ⟨by decide, fun _ => ⟨_, c + 1, .inl rfl, by simp, by decide, by omega, hy, fun e ys he hy => ?_⟩⟩
    have hn : ∃ n : Int, e = .int n ∧ 0 < n ∧ n ≤ 11 := by
      simp only [List.mem_cons, List.mem_nil_iff, or_false] at he
      rcases he with rfl | rfl | rfl
      · exact ⟨11, rfl, by decide, by decide⟩
      · exact ⟨4, rfl, by decide, by decide⟩
      · exact ⟨1, rfl, by decide, by decide⟩
    obtain ⟨n, rfl, n0, n1⟩ := hn
    walk_at "d"
    refine ⟨n, c + 2, rfl, n0, by omega, by omega, hy, fun j zs j0 j1 hz => ?_⟩
    walk_at "d"
    refine ⟨by omega, by omega, fun q => ?_⟩
    obtain ⟨m, rfl⟩ := Int.eq_ofNat_of_zero_le j0
    rw [Int.toNat_natCast, rngD_K]
    refine lc_inv (i := 2) (fun acc s => ∃ (ys : List D) (bs : List Int), s = [.ow p ys, .pu (lstI es), .no, .no, .no, .no, .no, .no] ∧ Pot (c + 3 + acc.length) ys ∧ acc = bs.map D.int ∧ ∀ b ∈ bs, 0 ≤ b ∧ b ≤ 4) _ [] _ _ ⟨zs, [], rfl, hz, rfl, fun _ h => by cases h⟩ (by rw [rngK_len]; simp only [List.length_nil]; omega) ?_ ?_
    · rintro acc s z ha ⟨ys, bs, rfl, hy, rfl, hb⟩ hz R hR
      walk_at "d"
      refine ⟨es.map D.int, c + 3 + (bs.map D.int).length, .inl rfl, by simpa using es0, by rw [List.length_map]; omega, by omega, hy, fun e ws he hw => ?_⟩
      obtain ⟨n, rfl, hn⟩ := sml he
      obtain ⟨n0, n1⟩ := es2 n hn
      walk_at "d"
      refine hR _ _ ⟨ws, bs ++ [n], rfl, hw.mono (by rw [List.length_append]; exact Nat.le_of_eq (by simp only [List.length_cons, List.length_nil]; omega)), by rw [List.map_append]; rfl, fun b hb2 => ?_⟩
      rcases List.mem_append.mp hb2 with h | h
      · exact hb b h
      · rw [List.mem_singleton.mp h]
        exact ⟨n0, n1⟩
    · rintro acc s ha ⟨ys, bs, rfl, hy, rfl, hb⟩
      rw [rngK_len] at ha
      simp only [List.length_map, List.length_nil] at ha
      exact hB _ ⟨ys, q, bs, rfl, hy.mono (by rw [List.length_map]; omega), by omega, hb⟩
  rintro s ⟨zs, q, fs, rfl, hz, fl, fb⟩
  refine seq_cutR (fun s => ∃ (ys : List D) (m way : Nat), s = [.ow p ys, .pu (lstI es), .no, .ow q (fs.map D.int), .pu (.int m), .pu (.int way), .no, .no] ∧ Pot (c + 17) ys ∧ 1 ≤ m ∧ m ≤ 6 ∧ way < 5) (fun B hB => ?_) ?_
  · walk_at "d"
    refine ⟨6, c + 15, rfl, by decide, by decide, by omega, hz, fun j ys j0 j1 hy => ?_⟩
    walk_at "d"
    refine ⟨5, c + 16, rfl, by decide, by decide, by omega, hy, fun i ws i0 i1 hw => ?_⟩
    walk_at "d"
    obtain ⟨m, hm⟩ : ∃ m : Nat, 1 + j = (m : Int) := ⟨(1 + j).toNat, by omega⟩
    obtain ⟨w, rfl⟩ := Int.eq_ofNat_of_zero_le i0
    rw [hm]
    exact ⟨by decide, hB _ ⟨ws, m, w, rfl, hw, by omega, by omega, by omega⟩⟩
  rintro s ⟨ys, m, way, rfl, hy, m1, m6, hway⟩
  refine seq_cutR (fun s => ∃ (zs : List D) (r : Addr) (as : List Int), s = [.ow p zs, .pu (lstI es), .no, .ow q (fs.map D.int), .pu (.int m), .pu (.int way), .ow r (as.map D.int), .no] ∧ Pot (c + 23) zs ∧ as.length = m ∧ ∀ e ∈ as, 0 ≤ e ∧ e ≤ 4) (fun B hB => ?_) ?_
  · walk_at "d"
    refine ⟨by omega, by omega, fun r => ?_⟩
    rw [Int.toNat_natCast, rngD_K]
    refine lc_inv (i := 2) (fun acc s => ∃ (ys : List D) (bs : List Int), s = [.ow p ys, .pu (lstI es), .no, .ow q (fs.map D.int), .pu (.int m), .pu (.int way), .no, .no] ∧ Pot (c + 17 + acc.length) ys ∧ acc = bs.map D.int ∧ ∀ b ∈ bs, 0 ≤ b ∧ b ≤ 4) _ [] _ _ ⟨ys, [], rfl, hy, rfl, fun _ h => by cases h⟩ (by rw [rngK_len]; simp only [List.length_nil]; omega) ?_ ?_
    · rintro acc s z ha ⟨ys, bs, rfl, hy, rfl, hb⟩ hz R hR
      walk_at "d"
      refine ⟨by decide, fun _ => ⟨by decide, fun _ => ⟨by decide, fun _ => ⟨by decide, fun _ => ⟨by decide, fun _ => ⟨by decide, fun _ => ?_⟩⟩⟩⟩⟩⟩
      have hw : ∃ ms : List Int, atI [D.lst [D.int 0, D.int 0, D.int 1, D.int 2], D.lst [D.int 1, D.int 1, D.int 2], D.lst [D.int 0, D.int 1, D.int 2, D.int 4], D.lst [D.int 0], D.lst [D.int 0, D.int 1, D.int 4]] (way : Int) = some (lstI ms) ∧ ms ≠ [] ∧ ms.length ≤ 10 ∧ ∀ e ∈ ms, 0 ≤ e ∧ e ≤ 4 := by
        rw [atI_k]
        rcases (show way = 0 ∨ way = 1 ∨ way = 2 ∨ way = 3 ∨ way = 4 by omega) with rfl | rfl | rfl | rfl | rfl
        · exact ⟨[0, 0, 1, 2], rfl, by decide, by decide, by decide⟩
        · exact ⟨[1, 1, 2], rfl, by decide, by decide, by decide⟩
        · exact ⟨[0, 1, 2, 4], rfl, by decide, by decide, by decide⟩
        · exact ⟨[0], rfl, by decide, by decide, by decide⟩
        · exact ⟨[0, 1, 4], rfl, by decide, by decide, by decide⟩
      obtain ⟨ms, e0, e1, e2, e3⟩ := hw
      rw [e0]
      refine ⟨ms.map D.int, c + 17 + (bs.map D.int).length, .inl rfl, by simpa using e1, by rw [List.length_map]; omega, by omega, hy, fun e ws he hw => ?_⟩
      obtain ⟨n, rfl, hn⟩ := sml he
      obtain ⟨n0, n1⟩ := e3 n hn
      walk_at "d"
      refine hR _ _ ⟨ws, bs ++ [n], rfl, hw.mono (by rw [List.length_append]; exact Nat.le_of_eq (by simp only [List.length_cons, List.length_nil]; omega)), by rw [List.map_append]; rfl, fun b hb2 => ?_⟩
      rcases List.mem_append.mp hb2 with h | h
      · exact hb b h
      · rw [List.mem_singleton.mp h]
        exact ⟨n0, n1⟩
    · rintro acc s ha ⟨ys, bs, rfl, hy, rfl, hb⟩
      rw [rngK_len] at ha
      simp only [List.length_map, List.length_nil] at ha
      exact hB _ ⟨ys, r, bs, rfl, hy.mono (by rw [List.length_map]; omega), by omega, hb⟩
  rintro s ⟨zs, r, as, rfl, hz, al, ab⟩
  have hA : ∀ as : List Int, as.length = m → (∀ e ∈ as, 0 ≤ e ∧ e ≤ 4) → Small fs as := fun as al ab => ⟨⟨⟨by omega, fb⟩, ⟨by omega, ab⟩, by omega⟩, by omega, by omega⟩
  refine seq_cutR (fun s => ∃ (zs : List D) (as : List Int) (a b : Sl), s = [.ow p zs, .pu (lstI es), a, .ow q (fs.map D.int), .pu (.int m), .pu (.int way), .ow r (as.map D.int), b] ∧ Pot (c + 50) zs ∧ as.length = m ∧ ∀ e ∈ as, 0 ≤ e ∧ e ≤ 4) (fun B hB => ?_) ?_
  · refine if_cutR (fun b s => ∃ ys, s = [.ow p ys, .pu (lstI es), .no, .ow q (fs.map D.int), .pu (.int m), .pu (.int way), .ow r (as.map D.int), .no] ∧ Pot (c + 24) ys) (fun P hP => ?_) (fun b s hs => ?_)
    · walk_at "d"
      refine ⟨3, c + 23, rfl, by decide, by decide, by omega, hz, fun j ys j0 j1 hy => ?_⟩
      walk_at "d"
      exact hP _ _ ⟨ys, rfl, hy⟩
    obtain ⟨ys, rfl, hy⟩ := hs
    cases b with
    | false =>
      rw [if_neg (by decide)]
      exact hB _ ⟨ys, as, .no, .no, rfl, hy.mono (by omega), al, ab⟩
    | true =>
      rw [if_pos rfl]
      unfold aFor aRng1 aCons aNil
      walk_at "d"
      refine ⟨cmul_l (by decide) (by decide), by omega, by omega, ?_⟩
      have e4 : (4 * (m : Int)).toNat = 4 * m := by omega
      rw [e4, rngD_K]
      refine for_inv (fun ds s => ∃ (k : Nat) (zs : List D) (as : List Int) (a b : Sl), ds = rngK k (4 * m - k) ∧ k ≤ 4 * m ∧ s = [.ow p zs, .pu (lstI es), a, .ow q (fs.map D.int), .pu (.int m), .pu (.int way), .ow r (as.map D.int), b] ∧ Pot (c + 24 + k) zs ∧ as.length = m ∧ ∀ e ∈ as, 0 ≤ e ∧ e ≤ 4) _ _ ⟨0, ys, as, .no, .no, rfl, by omega, rfl, hy, al, ab⟩ ?_ ?_
      · rintro s ⟨k, zs, as, a, b, e, hk, rfl, hz, al, ab⟩
        exact hB _ ⟨zs, as, a, b, rfl, hz.mono (by omega), al, ab⟩
      · rintro d ds s ⟨k, zs, as, a, b, e, hk, rfl, hz, al, ab⟩ B2 hB2
        by_cases ck : k < 4 * m
        · rw [show 4 * m - k = (4 * m - (k + 1)) + 1 by omega, rngK_succ] at e
          cases e
          walk_at "d"
          refine ⟨m, c + 24 + k, rfl, by omega, by omega, by omega, hz, fun j ws j0 j1 hw => ?_⟩
          obtain ⟨i, rfl⟩ := Int.eq_ofNat_of_zero_le j0
          have hi : i < as.length := by omega
          have gm := FM.getD_mem hi
          have gb := ab _ gm
          have fin : ∀ v : Int, 0 ≤ v → v ≤ 4 → B2 [.ow p ws, .pu (lstI es), .pu (.int k), .ow q (fs.map D.int), .pu (.int m), .pu (.int way), .ow r ((as.map D.int).set i (.int v)), .pu (.int i)] := fun v v0 v4 => by
            refine hB2 _ ⟨k + 1, ws, as.set i v, .pu (.int k), .pu (.int i), rfl, ck, ?_, hw, by rw [List.length_set]; exact al, fun e he => ?_⟩
            · rw [List.map_set]
            · rcases mem_set he with h | h
              · exact ab e h
              · rw [h]
                exact ⟨v0, v4⟩
          have fin0 : B2 [.ow p ws, .pu (lstI es), .pu (.int k), .ow q (fs.map D.int), .pu (.int m), .pu (.int way), .ow r (as.map D.int), .pu (.int i)] := hB2 _ ⟨k + 1, ws, as, .pu (.int k), .pu (.int i), rfl, ck, rfl, hw, al, ab⟩
          walk_at "d"
          have ei : ixN (as.map D.int).length (i : Int) = some i := ixN_nat (by rw [List.length_map]; exact hi)
          rw [at_int hi, ei]
          walk_at "d"
          refine ⟨_, rfl, rfl, ?_⟩
          refine ite2 (fun _ => ite2 (fun c1 => fin _ (by omega) (by omega)) fun _ => ⟨_, rfl, rfl, ?_⟩) fun _ => ⟨_, rfl, rfl, ?_⟩
          all_goals exact ite2 (fun _ => ite2 (fun c1 => fin _ (by omega) (by omega)) fun _ => fin0) fun _ => fin0
        · rw [show 4 * m - k = 0 by omega, rngK_zero] at e
          cases e
  rintro s ⟨zs, as, a, b, rfl, hz, al, ab⟩
  have hend := h fs as zs (hA as al ab) (hz.mono (by omega))
  walk_at "d"
  exact ⟨by decide, _, rfl, hend⟩
end K43

namespace K43
open PySem L2 DL FM
local macro_rules | `(tactic| walk_at "d") => `(tactic| try simp (config := { maxSteps := 3000000 }) only [aSeq, aSet, aVar, aMov, aC, aOp, aI, aIC, aB, aAnd, aOr, aNot, aTest, aIf, aAndV, aOrV, aNotV, aChain, aIsi, aCall, aCons, aNil, aRet, aRetN, aNext, aDrop, aIfS, aNev, aFn, aTup, aLst, aNeg, aIx, aIn, aEq, aNe, aIsN, aNotN, aAsg, agTup, agCons, agNil, agName, aPar, aAug, aInt, aI1, aI2, aLen, aPart, aNoP, aSlT, aSlL, aIxO, aBor, aApp, aPut, aCallM, aCallT, aYes, aLc, aItL, aItT, aItEnT, aItEnL, aItZip, aCallK, aCatL, aCatT, aStar, aExt, aPar3, aLtT, aRepr, aRng1, aRng2, aFor, wipeS, aTupl, aList, aListRange1, aPowW, aLt, aLe, aGt, aGe,
  aIntsT_tup, aInts_lst, aBls_lst, fSum,
  Sl.d, endsD, endsM, startS, List.map, List.length_cons, List.length_nil, List.length_replicate, List.length_append, List.cons_append, List.nil_append, List.replicate, List.getElem?_cons_zero, List.getElem?_cons_succ, List.getElem?_nil, List.set_cons_zero, List.set_cons_succ, List.set_nil, Nat.zero_add, Nat.reduceAdd, Nat.reduceSub, seqD, lstD, isi, isN, eqS, flatD, if_true, if_false, ite_true, ite_false, reduceIte, Bool.false_eq_true, true_and, and_true, reduceCtorEq, at2_0, at2_1, at3_0, at3_1, at3_2, ix3_0, ix3_2, dec_t, Bool.not_true, Bool.not_false])
def S_lap_goes : ARC := fun ds P => ∃ (fs as : List Int), ds = [tupI fs, tupI as] ∧ Arr fs as ∧ ∀ (w : Str) (L : Nat) (num : Int), LapsP fs as w L num → P (.pu (.tup [.str w, .int L, .int num]))
def S_most_in : ARC := fun ds P => ∃ (w : Int) (cs : List Int), ds = [.int w, tupI cs] ∧ P (.pu (.int (mostIn w cs)))
def S_most_delay : ARC := fun ds P => ∃ (fs as : List Int), ds = [tupI fs, tupI as] ∧ Arr fs as ∧ P (.pu (mostD fs as))
def S__law_most : ARC := fun ds P => ∃ (fs as : List Int), ds = [tupI fs, tupI as] ∧ Small fs as ∧ P (.pu (mostD fs as))
theorem begin_eq (fs as : List Int) : runW 0 fs = lapW fs as 0 := by
  unfold lapW
  rw [Nat.zero_mul, Nat.add_zero, w_first _ (Nat.le_refl _), List.take_length]
abbrev A__law_most : AS := (aSeq (aAsg (aCall (aFn 2 S__law_laps) (aCons (aVar 0) (aCons (aVar 1) aNil))) (agTup (agCons (agName 2) (agCons (agName 3) (agCons (agName 4) (agCons (agName 5) agNil))))))
  (aSeq (aIfS (aTest (aOp aEq (aVar 2) (aC (.str "grows")))) (aRet (aC .non)) aNext)
  (aSeq (aSet 6 (aAdd (aCall aLen (aCons (aVar 0) aNil)) (aMul (aAdd (aVar 3) (aC (.int 1))) (aCall aLen (aCons (aVar 1) aNil)))))
  (aSeq (aPar 7 8 (aCall (aFn 3 S__law_waits) (aCons (aVar 0) (aCons (aVar 1) (aCons (aVar 6) aNil)))) (aNeg (aC (.int 1))))
  (aSeq (aFor (aRng1 (aCons (aVar 6) aNil)) (agName 9) (aSeq (aSet 10 (aCall (aFn 3 S__law_count) (aCons (aVar 0) (aCons (aVar 1) (aCons (aVar 9) aNil)))))
  (aSet 8 (aIf (aTest (aOp aGt (aVar 10) (aC (.int 0)))) (aCall (aI2 maxI) (aCons (aVar 8) (aCons (aSub (aAdd (aOp aIx (aVar 7) (aVar 9)) (aVar 10)) (aC (.int 1))) aNil))) (aVar 8)))))
  (aRet (aCall aInt (aCons (aVar 8) aNil))))))))
theorem law__law_most : ∀ ds Q, ds.length = 2 → S__law_most ds Q → A__law_most (endsD Q) (startS 11 (ds.map .pu)) := by
  intro ds Q hl h
  obtain ⟨fs, as, rfl, hs, h⟩ := h
  have hA := hs.1
  unfold mostD at h
  unfold A__law_most
  refine seq_cutR (fun s => ∃ (w : Str) (L : Nat) (num : Int) (r : Sl), s = [.pu (tupI fs), .pu (tupI as), .pu (.str w), .pu (.int L), .pu (.int num), r, .no, .no, .no, .no, .no] ∧ LapsP fs as w L num) (fun B hB => ?_) ?_
  · walk_at "d"
    refine ⟨fs, as, rfl, hs, fun d hd => ?_⟩
    obtain ⟨w, L, num, m, rfl, hL, hp⟩ := hd
    walk_at "d"
    exact hB _ ⟨w, L, num, _, rfl, hp⟩
  rintro s ⟨w, L, num, r, rfl, hp⟩
  have lb := laps_le hA hp
  rcases hp.2.2 with ⟨c, rfl, _⟩ | ⟨c, rfl, _⟩
  · rw [if_pos c] at h
    walk_at "d"
    exact h
  rw [if_neg (by omega)] at h
  refine seq_cut [.pu (tupI fs), .pu (tupI as), .pu (.str "round"), .pu (.int L), .pu (.int num), r, .no, .no, .no, .no, .no] (fun B hB => ?_) ?_
  · walk_at "d"
    exact ite2 (fun c2 => absurd c2 (by decide +kernel)) fun _ => hB
  obtain ⟨T, hT⟩ : ∃ T, T = fs.length + (L + 1) * as.length := ⟨_, rfl⟩
  have hT2 : T ≤ 90000 := by
    have h1 := Nat.mul_le_mul (show L + 1 ≤ 4002 by omega) hs.2.2
    have := hs.2.1
    omega
  refine seq_cut [.pu (tupI fs), .pu (tupI as), .pu (.str "round"), .pu (.int L), .pu (.int num), r, .pu (.int T), .no, .no, .no, .no] (fun B hB => ?_) ?_
  · walk_at "d"
    rw [List.length_map, List.length_map]
    have e : (fs.length : Int) + ((L : Int) + 1) * (as.length : Int) = (T : Int) := by
      rw [hT, Int.natCast_add, Int.natCast_mul, Int.natCast_add]
      rfl
    rw [e]
    exact ⟨cmul_l (by omega) (by omega), hB⟩
  refine seq_cut [.pu (tupI fs), .pu (tupI as), .pu (.str "round"), .pu (.int L), .pu (.int num), r, .pu (.int T), .pu (lstI (wList fs as T)), .pu (.int (-1)), .no, .no] (fun B hB => ?_) ?_
  · walk_at "d"
    refine ⟨fs, as, T, rfl, hA, hT2, ?_⟩
    exact hB
  refine seq_cutR (fun s => ∃ a b, s = [.pu (tupI fs), .pu (tupI as), .pu (.str "round"), .pu (.int L), .pu (.int num), r, .pu (.int T), .pu (lstI (wList fs as T)), .pu (.int (mostTo fs as T)), a, b]) (fun B hB => ?_) ?_
  · walk_at "d"
    refine ⟨by omega, by omega, ?_⟩
    rw [Int.toNat_natCast, rngD_K]
    refine for_inv (fun ds s => ∃ (k : Nat) (a b : Sl), ds = rngK k (T - k) ∧ k ≤ T ∧ s = [.pu (tupI fs), .pu (tupI as), .pu (.str "round"), .pu (.int L), .pu (.int num), r, .pu (.int T), .pu (lstI (wList fs as T)), .pu (.int (mostTo fs as k)), a, b]) _ _ ⟨0, .no, .no, rfl, by omega, rfl⟩ ?_ ?_
    · rintro s ⟨k, a, b, e, hk, rfl⟩
      have ek : k = T := by
        by_cases c : k < T
        · rw [show T - k = (T - k - 1) + 1 by omega, rngK_succ] at e
          cases e
        · omega
      subst ek
      exact hB _ ⟨a, b, rfl⟩
    · rintro d ds s ⟨k, a, b, e, hk, rfl⟩ B2 hB2
      by_cases c : k < T
      · rw [show T - k = (T - (k + 1)) + 1 by omega, rngK_succ] at e
        cases e
        have h2 : ∀ v, v = mostTo fs as (k + 1) → B2 [.pu (tupI fs), .pu (tupI as), .pu (.str "round"), .pu (.int L), .pu (.int num), r, .pu (.int T), .pu (lstI (wList fs as T)), .pu (.int v), .pu (.int k), .pu (.int (cnt fs as k))] := fun v e => hB2 _ ⟨k + 1, .pu (.int k), .pu (.int (cnt fs as k)), rfl, c, by rw [e]⟩
        unfold mostTo at h2
        walk_at "d"
        refine ⟨fs, as, k, rfl, hA, ?_⟩
        walk_at "d"
        refine ite2 (fun c1 => ?_) fun c1 => ?_
        · have h3 := h2 _ (if_pos c1).symm
          unfold wList at h3 ⊢
          rw [at_rng _ hk]
          exact h3
        · exact h2 _ (if_neg c1).symm
      · rw [show T - k = 0 by omega, rngK_zero] at e
        cases e
  rintro s ⟨a, b, rfl⟩
  walk_at "d"
  rw [hT, most_L hA c hp.1]
  exact h
theorem mostD_sh {fs as : List Int} (hA : Arr fs as) : shD 40 (mostD fs as) ∧ sizD (mostD fs as) ≤ 200000 := by
  unfold mostD
  split
  · exact ⟨by simp only [shD], by simp only [sizD]; omega⟩
  · have h1 := most_hi hA
    have h2 : -1 ≤ mostAll fs as := mostTo_ge _
    exact ⟨by simp only [shD]; omega, by simp only [sizD]; omega⟩
theorem laps_sh {fs as : List Int} {w : Str} {L : Nat} {num : Int} (hA : Arr fs as) (h : LapsP fs as w L num) : shD 40 (.tup [.str w, .int L, .int num]) ∧ sizD (.tup [.str w, .int L, .int num]) ≤ 200000 := by
  have lb := laps_le hA h
  have hw : (w.cps.toList.all (fun c => decide (c < 16 ^ 8)) = true) ∧ w.cps.size ≤ 10 := by
    rcases h.2.2 with ⟨_, rfl, _⟩ | ⟨_, rfl, _⟩ <;> exact ⟨by decide +kernel, by decide +kernel⟩
  have hn : -10000000 ≤ num ∧ num ≤ 100000000 := by
    have sa := sum_bd as hA.2.1.2
    have la := hA.2.1.1
    have lf := hA.1.1
    rcases h.2.2 with ⟨_, _, rfl⟩ | ⟨_, _, rfl⟩
    · unfold mr
      omega
    · have h1 := w_le_c hA (fs.length + L * as.length)
      have h0 := lapW_nn (fs := fs) (as := as) L
      unfold lapW at h0 ⊢
      have h2 : L * as.length ≤ 4001 * 1000 := Nat.mul_le_mul lb la
      omega
  refine ⟨?_, by simp only [sizD, sizA]; omega⟩
  simp only [shD, shA]
  exact ⟨by decide, hw.1, by omega, by omega, trivial⟩
def S_above_in : ARC := fun ds P => ∃ (w : Int) (cs : List Int) (z : Int), ds = [.int w, tupI cs, .int z] ∧ ∀ d, AboveIn w cs z d → P (.pu d)
def S_least_start : ARC := fun ds P => ∃ (as : List Int) (z : Int), ds = [tupI as, .int z] ∧ as.length ≤ 1000 ∧ (∃ n, n < as.length ∧ 0 < as.getD n 0) ∧ ∀ v, IsNeed as z v → P (.pu (.int v))
def S_first_above : ARC := fun ds P => ∃ (fs as : List Int) (z : Int), ds = [tupI fs, tupI as, .int z] ∧ Arr fs as ∧ 0 ≤ z ∧ z ≤ 1000000000000000000 ∧ ∀ d, FirstAb fs as z d → P (.pu d)
def S__law_first_above : ARC := fun ds P => ∃ (fs as : List Int) (z : Int), ds = [tupI fs, tupI as, .int z] ∧ Small fs as ∧ 0 ≤ z ∧ z ≤ 1000000000000000000 ∧ ∀ d, FirstAb fs as z d → P (.pu d)
abbrev A_above_in : AS := (aSeq (aFor (aItEnT (aCons (aVar 1) aNil)) (agTup (agCons (agName 3) (agCons (agName 4) agNil))) (aSeq (aIfS (aAnd (aTest (aOp aGt (aSub (aAdd (aVar 0) (aVar 4)) (aC (.int 1))) (aVar 2))) (aTest (aOp aGt (aVar 4) (aC (.int 0))))) (aRet (aTup (aCons (aVar 3) (aCons (aCall (aI2 maxI) (aCons (aC (.int 0)) (aCons (aSub (aAdd (aVar 2) (aC (.int 1))) (aVar 0)) aNil))) aNil)))) aNext)
  (aSet 0 (aCall (aI2 maxI) (aCons (aC (.int 0)) (aCons (aSub (aAdd (aVar 0) (aVar 4)) (aC (.int 1))) aNil))))))
  (aRet (aC .non)))
theorem law_above_in : ∀ ds Q, ds.length = 3 → S_above_in ds Q → A_above_in (endsD Q) (startS 5 (ds.map .pu)) := by
  intro ds Q hl h
  obtain ⟨w, cs, z, rfl, h⟩ := h
  walk_at "d"
  rw [enumD_en]
  refine for_inv (fun ds s => ∃ (k : Nat) (a b : Sl), ds = en k ((cs.drop k).map D.int) ∧ s = [.pu (.int (runW w (cs.take k))), .pu (tupI cs), .pu (.int z), a, b] ∧ k ≤ cs.length ∧ ∀ n, n < k → ¬ ex w cs z n) _ _ ⟨0, .no, .no, rfl, by rw [List.take_zero]; rfl, by omega, fun n hn => by omega⟩ ?_ ?_
  · rintro s ⟨k, a, b, e, rfl, hk, hno⟩
    have ek : k = cs.length := by
      by_cases c : k < cs.length
      · rw [drop_getD c] at e
        cases e
      · omega
    walk_at "d"
    exact h _ (.inl ⟨rfl, fun n hn => hno n (by omega)⟩)
  · rintro d ds s ⟨k, a, b, e, rfl, hk, hno⟩ B hB
    by_cases c : k < cs.length
    · rw [drop_getD c] at e
      cases e
      have hnext : ¬ ex w cs z k → B [.pu (.int (maxI 0 (runW w (cs.take k) + cs.getD k 0 - 1))), .pu (tupI cs), .pu (.int z), .pu (.int k), .pu (.int (cs.getD k 0))] := fun hne => by
        refine hB _ ⟨k + 1, .pu (.int k), .pu (.int (cs.getD k 0)), rfl, ?_, c, fun n hn => ?_⟩
        · rw [← run_loopW w c]
          rfl
        · by_cases cn : n = k
          · rw [cn]
            exact hne
          · exact hno n (by omega)
      walk_at "d"
      refine ite2 (fun c1 => ite2 (fun c2 => ⟨by decide, ?_⟩) fun c2 => hnext fun e => c2 e.1) fun c1 => hnext fun e => c1 e.2
      have r := h (.tup [.int k, .int (max 0 (z + 1 - runW w (cs.take k)))]) (.inr ⟨k, c, rfl, ⟨c2, c1⟩, hno⟩)
      rw [maxI0]
      exact r
    · rw [List.drop_eq_nil_of_le (by omega)] at e
      cases e
abbrev A_least_start : AS := (aSeq (aPar 2 3 (aLst aNil) (aC (.int 0)))
  (aSeq (aFor (aItEnT (aCons (aVar 0) aNil)) (agTup (agCons (agName 4) (agCons (agName 5) agNil))) (aSeq (aIfS (aTest (aOp aGt (aVar 5) (aC (.int 0)))) (aApp 2 (aAdd (aSub (aSub (aAdd (aVar 1) (aC (.int 2))) (aVar 5)) (aVar 3)) (aVar 4))) aNext)
  (aAug 3 (fun i j => i + j) (aVar 5))))
  (aRet (aBor (aInts fMin) 2))))
theorem law_least_start : ∀ ds Q, ds.length = 2 → S_least_start ds Q → A_least_start (endsD Q) (startS 6 (ds.map .pu)) := by
  intro ds Q hl h
  obtain ⟨as, z, rfl, la, hex, h⟩ := h
  walk_at "d"
  refine ⟨by decide, fun q => ?_⟩
  rw [enumD_en]
  refine for_inv (fun ds s => ∃ (k : Nat) (ns : List Int) (a b : Sl), ds = en k ((as.drop k).map D.int) ∧ s = [.pu (tupI as), .pu (.int z), .ow q (ns.map D.int), .pu (.int (as.take k).sum), a, b] ∧ k ≤ as.length ∧ ns.length ≤ k ∧ (∀ v ∈ ns, ∃ n, n < k ∧ 0 < as.getD n 0 ∧ v = needAt as z n) ∧ ∀ n, n < k → 0 < as.getD n 0 → needAt as z n ∈ ns) _ _ ⟨0, [], .no, .no, rfl, by rw [List.take_zero]; rfl, by omega, by decide, (fun v hv => by cases hv), fun n hn => by omega⟩ ?_ ?_
  · rintro s ⟨k, ns, a, b, e, rfl, hk, hl, h1, h2⟩
    have ek : k = as.length := by
      by_cases c : k < as.length
      · rw [drop_getD c] at e
        cases e
      · omega
    subst ek
    walk_at "d"
    unfold fMin
    obtain ⟨n0, hn0, hc0⟩ := hex
    have hm0 := h2 n0 hn0 hc0
    refine ⟨List.length_pos_of_mem hm0, fun m hm hall => ?_⟩
    exact ⟨_, rfl, rfl, h m ⟨h1 m hm, fun n hn hc => hall _ (h2 n hn hc)⟩⟩
  · rintro d ds s ⟨k, ns, a, b, e, rfl, hk, hl, h1, h2⟩ B hB
    by_cases c : k < as.length
    · rw [drop_getD c] at e
      cases e
      have esum : (as.take k).sum + as.getD k 0 = (as.take (k + 1)).sum := by
        rw [take_snoc c, List.sum_append, List.sum_cons, List.sum_nil, Int.add_zero]
      walk_at "d"
      rw [esum, List.length_map]
      refine ite2 (fun c1 => ⟨by omega, ?_⟩) fun c1 => ?_
      · have en : z + 2 - as.getD k 0 - (as.take k).sum + (k : Int) = needAt as z k := rfl
        rw [en]
        refine hB _ ⟨k + 1, ns ++ [needAt as z k], .pu (.int k), .pu (.int (as.getD k 0)), rfl, by rw [List.map_append]; rfl, c, by rw [List.length_append]; simpa using hl, fun v hv => ?_, fun n hn hc => ?_⟩
        · rcases List.mem_append.mp hv with g | g
          · obtain ⟨n, g1, g2⟩ := h1 v g
            exact ⟨n, by omega, g2⟩
          · rw [List.mem_singleton.mp g]
            exact ⟨k, by omega, c1, rfl⟩
        · by_cases cn : n = k
          · rw [cn]
            simp
          · exact List.mem_append_left _ (h2 n (by omega) hc)
      · refine hB _ ⟨k + 1, ns, .pu (.int k), .pu (.int (as.getD k 0)), rfl, rfl, c, by omega, fun v hv => ?_, fun n hn hc => ?_⟩
        · obtain ⟨n, g1, g2⟩ := h1 v hv
          exact ⟨n, by omega, g2⟩
        · by_cases cn : n = k
          · rw [cn] at hc
            exact absurd hc c1
          · exact h2 n (by omega) hc
    · rw [List.drop_eq_nil_of_le (by omega)] at e
      cases e
theorem sum_ex : ∀ (as : List Int), (∀ c ∈ as, 0 ≤ c) → 0 < as.sum → ∃ n, n < as.length ∧ 0 < as.getD n 0
  | [], h, hs => by simp at hs
  | a :: as, h, hs => by
    by_cases c : 0 < a
    · exact ⟨0, by simp, by simpa using c⟩
    · have := h a List.mem_cons_self
      rw [List.sum_cons] at hs
      obtain ⟨n, h1, h2⟩ := sum_ex as (fun d hd => h d (List.mem_cons_of_mem _ hd)) (by omega)
      exact ⟨n + 1, by simpa using h1, by simpa using h2⟩
theorem sum_zero {as : List Int} (h : ∀ c ∈ as, 0 ≤ c) (hs : as.sum = 0) (n : Nat) (hn : n < as.length) : as.getD n 0 = 0 := by
  have h1 := le_sum as h _ (FM.getD_mem hn)
  have h2 := h _ (FM.getD_mem hn)
  omega
abbrev A_first_above : AS := (aSeq (aDrop (aCall (aFn 2 S_check_arrivals) (aCons (aVar 0) (aCons (aVar 1) aNil))))
  (aSeq (aIfS (aNot (aTest (aCall (aFn 3 S_is_within) (aCons (aVar 2) (aCons (aC (.int 0)) (aCons (aC (.int 1000000000000000000)) aNil)))))) aNev aNext)
  (aSeq (aSet 3 (aCall (aFn 3 S_above_in) (aCons (aC (.int 0)) (aCons (aVar 0) (aCons (aVar 2) aNil)))))
  (aSeq (aIfS (aOr (aTest (aOp aNotN (aVar 3) (aC .non))) (aTest (aOp aEq (aCall (aIntsT fSum) (aCons (aVar 1) aNil)) (aC (.int 0))))) (aRet (aVar 3)) aNext)
  (aSeq (aPar 4 5 (aSub (aCall (aIntsT fSum) (aCons (aVar 1) aNil)) (aCall aLen (aCons (aVar 1) aNil))) (aC (.int 0)))
  (aSeq (aSet 6 (aCall (aFn 3 S_above_in) (aCons (aCall (aFn 3 S_lap_waits) (aCons (aVar 0) (aCons (aVar 1) (aCons (aC (.int 0)) aNil)))) (aCons (aVar 1) (aCons (aVar 2) aNil)))))
  (aSeq (aIfS (aTest (aOp aIsN (aVar 6) (aC .non))) (aSeq (aPar 7 8 (aCall (aFn 2 S_least_start) (aCons (aVar 1) (aCons (aVar 2) aNil))) (aCall (aFn 3 S_lap_waits) (aCons (aVar 0) (aCons (aVar 1) (aCons (aC (.int 1)) aNil)))))
  (aSeq (aSet 5 (aIf (aTest (aOp aGt (aVar 4) (aC (.int 0)))) (aAdd (aC (.int 1)) (aCall (aI2 maxI) (aCons (aC (.int 0)) (aCons (aDiv (aSub (aAdd (aSub (aVar 7) (aVar 8)) (aVar 4)) (aC (.int 1))) (aVar 4)) aNil)))) (aC (.int 1))))
  (aSet 6 (aCall (aFn 3 S_above_in) (aCons (aCall (aFn 3 S_lap_waits) (aCons (aVar 0) (aCons (aVar 1) (aCons (aVar 5) aNil)))) (aCons (aVar 1) (aCons (aVar 2) aNil))))))) aNext)
  (aRet (aIf (aTest (aOp aIsN (aVar 6) (aC .non))) (aC .non) (aTup (aCons (aAdd (aAdd (aCall aLen (aCons (aVar 0) aNil)) (aMul (aVar 5) (aCall aLen (aCons (aVar 1) aNil)))) (aOp aIx (aVar 6) (aC (.int 0)))) (aCons (aOp aIx (aVar 6) (aC (.int 1))) aNil))))))))))))
theorem law_first_above : ∀ ds Q, ds.length = 3 → S_first_above ds Q → A_first_above (endsD Q) (startS 9 (ds.map .pu)) := by
  intro ds Q hl h
  obtain ⟨fs, as, z, rfl, hA, z0, z1, h⟩ := h
  have la := hA.2.1.1
  have la1 := hA.2.2
  have hc : ∀ c ∈ as, 0 ≤ c := fun c hc => (hA.2.1.2 c hc).1
  have sa := sum_bd as hA.2.1.2
  have em : as.sum - (as.length : Int) = mr as := rfl
  unfold A_first_above
  refine seq_cut [.pu (tupI fs), .pu (tupI as), .pu (.int z), .no, .no, .no, .no, .no, .no] (fun B hB => ?_) ?_
  · walk_at "d"
    exact ⟨fs, as, rfl, hA, hB⟩
  refine seq_cut [.pu (tupI fs), .pu (tupI as), .pu (.int z), .no, .no, .no, .no, .no, .no] (fun B hB => ?_) ?_
  · walk_at "d"
    refine ⟨_, _, _, rfl, trivial, ?_⟩
    have e : withinD (D.int z) 0 1000000000000000000 = true := by
      simp only [withinD, Bool.and_eq_true, decide_eq_true_eq]
      omega
    rw [e]
    walk_at "d"
    exact hB
  refine seq_cutR (fun s => ∃ d, s = [.pu (tupI fs), .pu (tupI as), .pu (.int z), .pu d, .no, .no, .no, .no, .no] ∧ AboveIn 0 fs z d) (fun B hB => ?_) ?_
  · walk_at "d"
    exact ⟨0, fs, z, rfl, fun d hd => hB _ ⟨d, rfl, hd⟩⟩
  rintro s ⟨d, rfl, hd⟩
  rcases hd with ⟨rfl, h1⟩ | ⟨n, hn, rfl, he, hmin⟩
  rotate_left
  · have g : FirstAb fs as z (.tup [.int n, .int (max 0 (z + 1 - runW 0 (fs.take n)))]) := by
      rw [← w_first (as := as) n (by omega)]
      exact .inr ⟨n, rfl, (ex_first hn).mpr he, fun t ht e => hmin t ht ((ex_first (by omega)).mp e)⟩
    refine seq_out fun B => ?_
    walk_at "d"
    exact h _ g
  by_cases cs : as.sum = 0
  · have g : FirstAb fs as z .non := none_of hA h1 fun j n hn e => by
      have := sum_zero hc cs n hn
      have := e.1
      omega
    refine seq_out fun B => ?_
    walk_at "d"
    rw [cs]
    exact ite2 (fun _ => h _ g) fun c => absurd rfl c
  refine seq_cut [.pu (tupI fs), .pu (tupI as), .pu (.int z), .pu .non, .no, .no, .no, .no, .no] (fun B hB => ?_) ?_
  · walk_at "d"
    exact ite2 (fun c => absurd c (by simpa [eqF] using cs)) fun _ => hB
  refine seq_cut [.pu (tupI fs), .pu (tupI as), .pu (.int z), .pu .non, .pu (.int (mr as)), .pu (.int 0), .no, .no, .no] (fun B hB => ?_) ?_
  · walk_at "d"
    rw [List.length_map, em]
    exact hB
  refine seq_cutR (fun s => ∃ d, s = [.pu (tupI fs), .pu (tupI as), .pu (.int z), .pu .non, .pu (.int (mr as)), .pu (.int 0), .pu d, .no, .no] ∧ AboveIn (lapW fs as 0) as z d) (fun B hB => ?_) ?_
  · walk_at "d"
    refine ⟨fs, as, 0, rfl, hA, by omega, ?_⟩
    walk_at "d"
    exact ⟨_, as, z, rfl, fun d hd => hB _ ⟨d, rfl, hd⟩⟩
  rintro s ⟨d, rfl, hd⟩
  have fin : ∀ (k n : Nat) (v : Int), FirstAb fs as z (.tup [.int (fs.length + k * as.length + n : Nat), .int v]) → Q (.pu (.tup [.int ((fs.length : Int) + (k : Int) * (as.length : Int) + (n : Int)), .int v])) := fun k n v g => by
    have e : ((fs.length + k * as.length + n : Nat) : Int) = (fs.length : Int) + (k : Int) * (as.length : Int) + (n : Int) := by
      rw [Int.natCast_add, Int.natCast_add, Int.natCast_mul]
    rw [e] at g
    exact h _ g
  rcases hd with ⟨rfl, h0⟩ | ⟨n, hn, rfl, he, hmin⟩
  rotate_left
  · have g := fin 0 n _ (first_of hA h1 (fun j hj => by omega) hn he hmin)
    refine seq_cut [.pu (tupI fs), .pu (tupI as), .pu (.int z), .pu .non, .pu (.int (mr as)), .pu (.int 0), .pu (.tup [.int n, .int (max 0 (z + 1 - runW (lapW fs as 0) (as.take n)))]), .no, .no] (fun B hB => ?_) ?_
    · refine if_cut false [.pu (tupI fs), .pu (tupI as), .pu (.int z), .pu .non, .pu (.int (mr as)), .pu (.int 0), .pu (.tup [.int n, .int (max 0 (z + 1 - runW (lapW fs as 0) (as.take n)))]), .no, .no] (fun P hP => ?_) ?_
      · walk_at "d"
        exact hP
      · rw [if_neg (by decide)]
        exact hB
    walk_at "d"
    rw [List.length_map, List.length_map]
    exact ⟨cmul_l (by decide) (by decide), by decide, g⟩
  have hex := sum_ex as hc (by omega)
  refine seq_cutR (fun s => ∃ (k : Nat) (d : D) (a b : Sl), s = [.pu (tupI fs), .pu (tupI as), .pu (.int z), .pu .non, .pu (.int (mr as)), .pu (.int k), .pu d, a, b] ∧ k < 18446744073709551616 ∧ AboveIn (lapW fs as k) as z d ∧ (∀ j, j < k → ∀ n, n < as.length → ¬ ex (lapW fs as j) as z n) ∧ (d = .non → ∀ j n, n < as.length → ¬ ex (lapW fs as j) as z n)) (fun B hB => ?_) ?_
  · refine if_cut true [.pu (tupI fs), .pu (tupI as), .pu (.int z), .pu .non, .pu (.int (mr as)), .pu (.int 0), .pu .non, .no, .no] (fun P hP => ?_) ?_
    · walk_at "d"
      exact hP
    rw [if_pos rfl]
    refine seq_cutR (fun s => ∃ v, s = [.pu (tupI fs), .pu (tupI as), .pu (.int z), .pu .non, .pu (.int (mr as)), .pu (.int 0), .pu .non, .pu (.int v), .pu (.int (lapW fs as 1))] ∧ IsNeed as z v) (fun B2 hB2 => ?_) ?_
    · walk_at "d"
      refine ⟨as, z, rfl, la, hex, fun v hv => ?_⟩
      walk_at "d"
      exact ⟨fs, as, 1, rfl, hA, by omega, hB2 _ ⟨v, rfl, hv⟩⟩
    rintro s ⟨v, rfl, hv⟩
    refine seq_cutR (fun s => ∃ k : Nat, s = [.pu (tupI fs), .pu (tupI as), .pu (.int z), .pu .non, .pu (.int (mr as)), .pu (.int k), .pu .non, .pu (.int v), .pu (.int (lapW fs as 1))] ∧ k < 18446744073709551616 ∧ (∀ j, j < k → ∀ n, n < as.length → ¬ ex (lapW fs as j) as z n) ∧ ((∀ n, n < as.length → ¬ ex (lapW fs as k) as z n) → ∀ j n, n < as.length → ¬ ex (lapW fs as j) as z n)) (fun B2 hB2 => ?_) ?_
    · by_cases hm : 0 < mr as
      · obtain ⟨k, ek, k1, k2⟩ := lap_pick hA hm h0 hv
        have kb : k < 18446744073709551616 := by
          have w1 : 0 ≤ lapW fs as 1 := lapW_nn 1
          obtain ⟨n, hn, hcn, ev⟩ := hv.1
          have s2 := sum_bd (as.take n) fun c h => hA.2.1.2 c (List.mem_of_mem_take h)
          have q1 : (v - lapW fs as 1 + mr as - 1) / mr as ≤ max 0 (v - lapW fs as 1 + mr as - 1) := by
            by_cases cq : 0 ≤ v - lapW fs as 1 + mr as - 1
            · have := Int.ediv_le_self (mr as) cq
              omega
            · have := Int.ediv_neg_of_neg_of_pos (show v - lapW fs as 1 + mr as - 1 < 0 by omega) hm
              omega
          unfold needAt at ev
          unfold mr at *
          omega
        walk_at "d"
        refine ite2 (fun _ => ?_) fun c => absurd hm c
        rw [maxI0, ek]
        exact ⟨cdiv hm (by unfold mr; omega), hB2 _ ⟨k, rfl, kb, k1, fun hno => by
          obtain ⟨n, hn, e⟩ := k2
          exact absurd e (hno n hn)⟩⟩
      · walk_at "d"
        refine ite2 (fun c => absurd c hm) fun _ => ?_
        refine hB2 _ ⟨1, rfl, by decide, fun j hj n hn => ?_, fun hno => lap_one hA (by omega) h0 hno⟩
        have : j = 0 := by omega
        rw [this]
        exact h0 n hn
    rintro s ⟨k, rfl, kb, k1, k2⟩
    walk_at "d"
    refine ⟨fs, as, k, rfl, hA, kb, ?_⟩
    walk_at "d"
    refine ⟨_, as, z, rfl, fun d hd => hB _ ⟨k, d, _, _, rfl, kb, hd, k1, fun e => k2 ?_⟩⟩
    rcases hd with ⟨_, hno⟩ | ⟨n, hn, rfl, _⟩
    · exact hno
    · cases e
  rintro s ⟨k, d, a, b, rfl, kb, hd, k1, k2⟩
  rcases hd with ⟨rfl, hno⟩ | ⟨n, hn, rfl, he, hmin⟩
  · have g := h _ (none_of hA h1 (k2 rfl))
    walk_at "d"
    exact g
  · have g := fin k n _ (first_of hA h1 k1 hn he hmin)
    walk_at "d"
    rw [List.length_map, List.length_map]
    exact ⟨cmul_l (by omega) (by omega), by decide, g⟩
theorem aLtT2 (a b c d : Int) (P : Sl → Prop) : aLtT (.tup [.int a, .int b]) (.tup [.int c, .int d]) P = P (.pu (.bl (HT.lexLt [a, b] [c, d]))) := rfl
theorem lexLt_le {a b c d : Int} (h : HT.lexLt [a, b] [c, d] = true) : a ≤ c := by
  rw [HT.lexLt_cons] at h
  split at h
  · omega
  · have := of_decide_eq_true h
    omega
theorem lexLt_ge {a b c d : Int} (h : HT.lexLt [a, b] [c, d] = false) : c ≤ a := by
  rw [HT.lexLt_cons] at h
  split at h
  · omega
  · have := of_decide_eq_false h
    omega
abbrev A__law_first_above : AS := (aSeq (aAsg (aCall (aFn 2 S__law_laps) (aCons (aVar 0) (aCons (aVar 1) aNil))) (agTup (agCons (agName 3) (agCons (agName 4) (agCons (agName 5) (agCons (agName 6) agNil))))))
  (aSeq (aSet 7 (aAdd (aCall aLen (aCons (aVar 0) aNil)) (aMul (aAdd (aVar 4) (aC (.int 1))) (aCall aLen (aCons (aVar 1) aNil)))))
  (aSeq (aPar 8 9 (aCall (aFn 3 S__law_waits) (aCons (aVar 0) (aCons (aVar 1) (aCons (aVar 7) aNil)))) (aC .non))
  (aSeq (aFor (aRng1 (aCons (aVar 7) aNil)) (agName 10) (aSeq (aSet 11 (aCall (aFn 3 S__law_count) (aCons (aVar 0) (aCons (aVar 1) (aCons (aVar 10) aNil)))))
  (aIfS (aAnd (aTest (aOp aGt (aSub (aAdd (aOp aIx (aVar 8) (aVar 10)) (aVar 11)) (aC (.int 1))) (aVar 2))) (aTest (aOp aGt (aVar 11) (aC (.int 0))))) (aRet (aTup (aCons (aCall aInt (aCons (aVar 10) aNil)) (aCons (aCall aInt (aCons (aCall (aI2 maxI) (aCons (aC (.int 0)) (aCons (aSub (aAdd (aVar 2) (aC (.int 1))) (aOp aIx (aVar 8) (aVar 10))) aNil))) aNil)) aNil)))) aNext)))
  (aSeq (aIfS (aTest (aOp aEq (aVar 3) (aC (.str "round")))) (aRet (aC .non)) aNext)
  (aSeq (aSet 12 (aAdd (aCall aLen (aCons (aVar 0) aNil)) (aMul (aVar 4) (aCall aLen (aCons (aVar 1) aNil)))))
  (aSeq (aFor (aItEnT (aCons (aVar 1) aNil)) (agTup (agCons (agName 13) (agCons (agName 11) agNil))) (aIfS (aTest (aOp aGt (aVar 11) (aC (.int 0)))) (aSeq (aSet 14 (aSub (aAdd (aOp aIx (aVar 8) (aAdd (aVar 12) (aVar 13))) (aVar 11)) (aC (.int 1))))
  (aSeq (aSet 15 (aAdd (aDiv (aSub (aVar 2) (aVar 14)) (aVar 5)) (aC (.int 1))))
  (aSeq (aPar 10 16 (aAdd (aAdd (aVar 12) (aVar 13)) (aMul (aVar 15) (aCall aLen (aCons (aVar 1) aNil)))) (aAdd (aOp aIx (aVar 8) (aAdd (aVar 12) (aVar 13))) (aMul (aVar 15) (aVar 5))))
  (aSeq (aSet 17 (aTup (aCons (aCall aInt (aCons (aVar 10) aNil)) (aCons (aCall aInt (aCons (aCall (aI2 maxI) (aCons (aC (.int 0)) (aCons (aSub (aAdd (aVar 2) (aC (.int 1))) (aVar 16)) aNil))) aNil)) aNil))))
  (aSet 9 (aIf (aOr (aTest (aOp aIsN (aVar 9) (aC .non))) (aTest (aOp aLtT (aVar 17) (aVar 9)))) (aVar 17) (aVar 9))))))) aNext))
  (aRet (aVar 9)))))))))
theorem law__law_first_above : ∀ ds Q, ds.length = 3 → S__law_first_above ds Q → A__law_first_above (endsD Q) (startS 18 (ds.map .pu)) := by
  intro ds Q hl h
  obtain ⟨fs, as, z, rfl, hs, z0, z1, h⟩ := h
  have hA := hs.1
  have la1 := hA.2.2
  have hc : ∀ c ∈ as, 0 ≤ c := fun c hc => (hA.2.1.2 c hc).1
  have sa := sum_bd as hA.2.1.2
  unfold A__law_first_above
  refine seq_cutR (fun s => ∃ (w : Str) (L : Nat) (num : Int) (r : Sl), s = [.pu (tupI fs), .pu (tupI as), .pu (.int z), .pu (.str w), .pu (.int L), .pu (.int num), r, .no, .no, .no, .no, .no, .no, .no, .no, .no, .no, .no] ∧ LapsP fs as w L num) (fun B hB => ?_) ?_
  · walk_at "d"
    refine ⟨fs, as, rfl, hs, fun d hd => ?_⟩
    obtain ⟨w, L, num, m, rfl, hL, hp⟩ := hd
    walk_at "d"
    exact hB _ ⟨w, L, num, _, rfl, hp⟩
  rintro s ⟨w, L, num, r, rfl, hp⟩
  have lb := laps_le hA hp
  obtain ⟨T, hT⟩ : ∃ T, T = fs.length + (L + 1) * as.length := ⟨_, rfl⟩
  have hT2 : T ≤ 90000 := by
    have h1 := Nat.mul_le_mul (show L + 1 ≤ 4002 by omega) hs.2.2
    have := hs.2.1
    omega
  refine seq_cut [.pu (tupI fs), .pu (tupI as), .pu (.int z), .pu (.str w), .pu (.int L), .pu (.int num), r, .pu (.int T), .no, .no, .no, .no, .no, .no, .no, .no, .no, .no] (fun B hB => ?_) ?_
  · walk_at "d"
    rw [List.length_map, List.length_map]
    have e : (fs.length : Int) + ((L : Int) + 1) * (as.length : Int) = (T : Int) := by
      rw [hT, Int.natCast_add, Int.natCast_mul, Int.natCast_add]
      rfl
    rw [e]
    exact ⟨cmul_l (by omega) (by omega), hB⟩
  refine seq_cut [.pu (tupI fs), .pu (tupI as), .pu (.int z), .pu (.str w), .pu (.int L), .pu (.int num), r, .pu (.int T), .pu (lstI (wList fs as T)), .pu .non, .no, .no, .no, .no, .no, .no, .no, .no] (fun B hB => ?_) ?_
  · walk_at "d"
    exact ⟨fs, as, T, rfl, hA, hT2, hB⟩
  refine seq_cutR (fun s => ∃ a b, s = [.pu (tupI fs), .pu (tupI as), .pu (.int z), .pu (.str w), .pu (.int L), .pu (.int num), r, .pu (.int T), .pu (lstI (wList fs as T)), .pu .non, a, b, .no, .no, .no, .no, .no, .no] ∧ ∀ t, t < T → ¬ exA fs as z t) (fun B hB => ?_) ?_
  · walk_at "d"
    refine ⟨by omega, by omega, ?_⟩
    rw [Int.toNat_natCast, rngD_K]
    refine for_inv (fun ds s => ∃ (k : Nat) (a b : Sl), ds = rngK k (T - k) ∧ k ≤ T ∧ s = [.pu (tupI fs), .pu (tupI as), .pu (.int z), .pu (.str w), .pu (.int L), .pu (.int num), r, .pu (.int T), .pu (lstI (wList fs as T)), .pu .non, a, b, .no, .no, .no, .no, .no, .no] ∧ ∀ t, t < k → ¬ exA fs as z t) _ _ ⟨0, .no, .no, rfl, by omega, rfl, fun t ht => by omega⟩ ?_ ?_
    · rintro s ⟨k, a, b, e, hk, rfl, hno⟩
      have ek : k = T := by
        by_cases c : k < T
        · rw [show T - k = (T - k - 1) + 1 by omega, rngK_succ] at e
          cases e
        · omega
      subst ek
      exact hB _ ⟨a, b, rfl, hno⟩
    · rintro d ds s ⟨k, a, b, e, hk, rfl, hno⟩ B2 hB2
      by_cases c : k < T
      · rw [show T - k = (T - (k + 1)) + 1 by omega, rngK_succ] at e
        cases e
        have h2 : ¬ exA fs as z k → B2 [.pu (tupI fs), .pu (tupI as), .pu (.int z), .pu (.str w), .pu (.int L), .pu (.int num), r, .pu (.int T), .pu (lstI (wList fs as T)), .pu .non, .pu (.int k), .pu (.int (cnt fs as k)), .no, .no, .no, .no, .no, .no] := fun hne => hB2 _ ⟨k + 1, _, _, rfl, c, rfl, fun t ht => by
          by_cases ct : t = k
          · rw [ct]
            exact hne
          · exact hno t (by omega)⟩
        walk_at "d"
        refine ⟨fs, as, k, rfl, hA, ?_⟩
        walk_at "d"
        unfold wList at h2 ⊢
        rw [at_rng _ hk]
        walk_at "d"
        refine ite2 (fun c1 => ite2 (fun c2 => ⟨by decide, ?_⟩) fun c2 => h2 fun e => c2 e.1) fun c1 => h2 fun e => c1 e.2
        rw [maxI0]
        exact h _ (.inr ⟨k, rfl, ⟨c2, c1⟩, hno⟩)
      · rw [show T - k = 0 by omega, rngK_zero] at e
        cases e
  rintro s ⟨a, b, rfl, hno⟩
  rw [hT] at hno
  rcases hp.2.2 with ⟨hm, rfl, rfl⟩ | ⟨hm, rfl, _⟩
  rotate_left
  · refine seq_out fun B => ?_
    have g := h _ (.inl ⟨rfl, (most_none hA (by omega) hm).mp (by rw [← most_L hA hm hp.1]; exact (most_ex (by omega) _).mpr hno)⟩)
    walk_at "d"
    exact g
  have num0 : 0 < mr as := hm
  have mr18 : mr as < 1073741824 := by
    have := hs.2.2
    unfold mr
    omega
  refine seq_cut [.pu (tupI fs), .pu (tupI as), .pu (.int z), .pu (.str "grows"), .pu (.int L), .pu (.int (mr as)), r, .pu (.int T), .pu (lstI (wList fs as T)), .pu .non, a, b, .no, .no, .no, .no, .no, .no] (fun B hB => ?_) ?_
  · walk_at "d"
    exact hB
  obtain ⟨G, hG⟩ : ∃ G, G = fs.length + L * as.length := ⟨_, rfl⟩
  refine seq_cut [.pu (tupI fs), .pu (tupI as), .pu (.int z), .pu (.str "grows"), .pu (.int L), .pu (.int (mr as)), r, .pu (.int T), .pu (lstI (wList fs as T)), .pu .non, a, b, .pu (.int G), .no, .no, .no, .no, .no] (fun B hB => ?_) ?_
  · walk_at "d"
    rw [List.length_map, List.length_map]
    have e : (fs.length : Int) + (L : Int) * (as.length : Int) = (G : Int) := by
      rw [hG, Int.natCast_add, Int.natCast_mul]
    rw [e]
    exact ⟨cmul_l (by omega) (by omega), hB⟩
  -- the least of all places
  refine seq_cutR (fun s => ∃ (d : D) (c1 c2 c3 c4 c5 c6 c7 : Sl), s = [.pu (tupI fs), .pu (tupI as), .pu (.int z), .pu (.str "grows"), .pu (.int L), .pu (.int (mr as)), r, .pu (.int T), .pu (lstI (wList fs as T)), .pu d, c1, c2, .pu (.int G), c3, c4, c5, c6, c7] ∧ FirstAb fs as z d) (fun B hB => ?_) ?_
  rotate_left
  · rintro s ⟨d, c1, c2, c3, c4, c5, c6, c7, rfl, hd⟩
    have g := h _ hd
    walk_at "d"
    exact g
  have pick := fun n (hn : n < as.length) (hc : 0 < as.getD n 0) => far_pick hA hm hp.1 hno hn hc
  walk_at "d"
  rw [enumD_en]
  refine for_inv (fun ds s => ∃ (k : Nat) (d : D) (c1 c2 c3 c4 c5 c6 c7 : Sl), ds = en k ((as.drop k).map D.int) ∧ k ≤ as.length ∧ s = [.pu (tupI fs), .pu (tupI as), .pu (.int z), .pu (.str "grows"), .pu (.int L), .pu (.int (mr as)), r, .pu (.int T), .pu (lstI (wList fs as T)), .pu d, c1, c2, .pu (.int G), c3, c4, c5, c6, c7] ∧
    ((d = .non ∧ ∀ n, n < k → ¬ 0 < as.getD n 0) ∨ (∃ (n0 j0 : Nat), n0 < k ∧ 0 < as.getD n0 0 ∧ jAt fs as z L n0 = j0 ∧ d = .tup [.int (fs.length + (L + j0) * as.length + n0 : Nat), .int (max 0 (z + 1 - wAt fs as (fs.length + (L + j0) * as.length + n0)))] ∧
      ∀ n', n' < k → 0 < as.getD n' 0 → ∀ j' : Nat, jAt fs as z L n' = j' → L * as.length + n0 + j0 * as.length ≤ L * as.length + n' + j' * as.length))) _ _ ⟨0, .non, a, b, .no, .no, .no, .no, .no, rfl, by omega, rfl, .inl ⟨rfl, fun n hn => by omega⟩⟩ ?_ ?_
  · rintro s ⟨k, d, c1, c2, c3, c4, c5, c6, c7, e, hk, rfl, hd⟩
    have ek : k = as.length := by
      by_cases c : k < as.length
      · rw [drop_getD c] at e
        cases e
      · omega
    subst ek
    rcases hd with ⟨rfl, hd⟩ | ⟨n0, j0, hn, hcn, hj, rfl, hmin⟩
    · obtain ⟨n, hn, hcn⟩ := sum_ex as hc (by unfold mr at hm; omega)
      exact absurd hcn (hd n hn)
    · exact hB _ ⟨_, _, _, _, _, _, _, _, rfl, far_first hA hm hp.1 hno hn hcn hj hmin⟩
  · rintro e0 ds s ⟨k, d, c1, c2, c3, c4, c5, c6, c7, e, hk, rfl, hd⟩ B2 hB2
    by_cases c : k < as.length
    rotate_left
    · rw [List.drop_eq_nil_of_le (by omega)] at e
      cases e
    rw [drop_getD c] at e
    cases e
    by_cases hcn : 0 < as.getD k 0
    rotate_left
    · have h2 := hB2 [.pu (tupI fs), .pu (tupI as), .pu (.int z), .pu (.str "grows"), .pu (.int L), .pu (.int (mr as)), r, .pu (.int T), .pu (lstI (wList fs as T)), .pu d, c1, .pu (.int (as.getD k 0)), .pu (.int G), .pu (.int k), c4, c5, c6, c7] ⟨k + 1, d, _, _, _, _, _, _, _, rfl, c, rfl, ?_⟩
      · walk_at "d"
        exact ite2 (fun g => absurd g hcn) fun _ => h2
      · rcases hd with ⟨rfl, hd⟩ | ⟨n0, j0, hn, hcn0, hj, rfl, hmin⟩
        · refine .inl ⟨rfl, fun n hn => ?_⟩
          by_cases cn : n = k
          · rw [cn]
            exact hcn
          · exact hd n (by omega)
        · refine .inr ⟨n0, j0, by omega, hcn0, hj, rfl, fun n' hn' hc' => ?_⟩
          by_cases cn : n' = k
          · rw [cn] at hc'
            exact absurd hc' hcn
          · exact hmin n' (by omega) hc'
    obtain ⟨p0, p1⟩ := pick k c hcn
    obtain ⟨j, hj⟩ := Int.eq_ofNat_of_zero_le p0
    have eG : fs.length + L * as.length + k = G + k := by omega
    have hj2 : (z - (wAt fs as (G + k) + as.getD k 0 - 1)) / mr as + 1 = (j : Int) := by
      rw [← hj, ← eG]
      rfl
    have eS : (G : Int) + (k : Int) + (j : Int) * (as.length : Int) = ((fs.length + (L + j) * as.length + k : Nat) : Int) := by
      rw [hG, Int.natCast_add, Int.natCast_add, Int.natCast_add, Int.natCast_mul, Int.natCast_mul, Int.natCast_add, Int.add_mul]
      omega
    have eW : wAt fs as (G + k) + (j : Int) * mr as = wAt fs as (fs.length + (L + j) * as.length + k) := by
      rw [along_far hA (by omega) hp.1 j (by omega), eG]
    have GT : G + k ≤ T := by
      rw [hG, hT, Nat.add_mul, Nat.one_mul]
      omega
    have fin : ∀ d2, (d2 = d ∧ (∃ (n0 j0 : Nat), n0 < k ∧ 0 < as.getD n0 0 ∧ jAt fs as z L n0 = j0 ∧ d = .tup [.int (fs.length + (L + j0) * as.length + n0 : Nat), .int (max 0 (z + 1 - wAt fs as (fs.length + (L + j0) * as.length + n0)))] ∧ L * as.length + n0 + j0 * as.length ≤ L * as.length + k + j * as.length ∧
        ∀ n', n' < k → 0 < as.getD n' 0 → ∀ j' : Nat, jAt fs as z L n' = j' → L * as.length + n0 + j0 * as.length ≤ L * as.length + n' + j' * as.length) ∨ d2 = .tup [.int (fs.length + (L + j) * as.length + k : Nat), .int (max 0 (z + 1 - wAt fs as (fs.length + (L + j) * as.length + k)))] ∧
        ∀ n', n' < k → 0 < as.getD n' 0 → ∀ j' : Nat, jAt fs as z L n' = j' → L * as.length + k + j * as.length ≤ L * as.length + n' + j' * as.length) → ∀ x1 x2 x3 x4 x5 x6, B2 [.pu (tupI fs), .pu (tupI as), .pu (.int z), .pu (.str "grows"), .pu (.int L), .pu (.int (mr as)), r, .pu (.int T), .pu (lstI (wList fs as T)), .pu d2, x1, x2, .pu (.int G), .pu (.int k), x3, x4, x5, x6] := fun d2 hd2 x1 x2 x3 x4 x5 x6 => by
      refine hB2 _ ⟨k + 1, d2, x1, x2, .pu (.int k), x3, x4, x5, x6, rfl, c, rfl, .inr ?_⟩
      rcases hd2 with ⟨rfl, n0, j0, g1, g2, g3, g4, g5, g6⟩ | ⟨rfl, g⟩
      · refine ⟨n0, j0, by omega, g2, g3, g4, fun n' hn' hc' j' hj' => ?_⟩
        by_cases cn : n' = k
        · subst cn
          have : j' = j := by omega
          subst this
          exact g5
        · exact g6 n' (by omega) hc' j' hj'
      · refine ⟨k, j, by omega, hcn, hj, rfl, fun n' hn' hc' j' hj' => ?_⟩
        by_cases cn : n' = k
        · subst cn
          have : j' = j := by omega
          subst this
          exact Nat.le_refl _
        · exact g n' (by omega) hc' j' hj'
    have las := hs.2.2
    have eGk : (G : Int) + (k : Int) = ((G + k : Nat) : Int) := by omega
    obtain ⟨mo, hmo⟩ : ∃ mo, mo = wAt fs as (G + k) + as.getD k 0 - 1 := ⟨_, rfl⟩
    rw [← hmo] at hj2
    obtain ⟨sl, hsl⟩ : ∃ sl, sl = fs.length + (L + j) * as.length + k := ⟨_, rfl⟩
    rw [← hsl] at eS eW fin
    simp only [agTup, agCons, agNil, agName, List.set_cons_zero, List.set_cons_succ]
    refine ⟨trivial, ?_⟩
    show aIfS _ _ _ _ [.pu (tupI fs), .pu (tupI as), .pu (.int z), .pu (.str "grows"), .pu (.int L), .pu (.int (mr as)), r, .pu (.int T), .pu (lstI (wList fs as T)), .pu d, c1, .pu (.int (as.getD k 0)), .pu (.int G), .pu (.int k), c4, c5, c6, c7]
    refine if_cut true [.pu (tupI fs), .pu (tupI as), .pu (.int z), .pu (.str "grows"), .pu (.int L), .pu (.int (mr as)), r, .pu (.int T), .pu (lstI (wList fs as T)), .pu d, c1, .pu (.int (as.getD k 0)), .pu (.int G), .pu (.int k), c4, c5, c6, c7] (fun P hP => ?_) ?_
    · walk_at "d"
      rw [decide_eq_true hcn]
      exact hP
    rw [if_pos rfl]
    refine seq_cut [.pu (tupI fs), .pu (tupI as), .pu (.int z), .pu (.str "grows"), .pu (.int L), .pu (.int (mr as)), r, .pu (.int T), .pu (lstI (wList fs as T)), .pu d, c1, .pu (.int (as.getD k 0)), .pu (.int G), .pu (.int k), .pu (.int mo), c5, c6, c7] (fun B3 hB3 => ?_) ?_
    · walk_at "d"
      unfold wList at hB3 ⊢
      rw [eGk, at_rng _ GT]
      walk_at "d"
      rw [← hmo]
      exact hB3
    refine seq_cut [.pu (tupI fs), .pu (tupI as), .pu (.int z), .pu (.str "grows"), .pu (.int L), .pu (.int (mr as)), r, .pu (.int T), .pu (lstI (wList fs as T)), .pu d, c1, .pu (.int (as.getD k 0)), .pu (.int G), .pu (.int k), .pu (.int mo), .pu (.int j), c6, c7] (fun B3 hB3 => ?_) ?_
    · walk_at "d"
      rw [hj2]
      exact ⟨cdiv hm mr18, hB3⟩
    refine seq_cut [.pu (tupI fs), .pu (tupI as), .pu (.int z), .pu (.str "grows"), .pu (.int L), .pu (.int (mr as)), r, .pu (.int T), .pu (lstI (wList fs as T)), .pu d, .pu (.int sl), .pu (.int (as.getD k 0)), .pu (.int G), .pu (.int k), .pu (.int mo), .pu (.int j), .pu (.int (wAt fs as sl)), c7] (fun B3 hB3 => ?_) ?_
    · walk_at "d"
      unfold wList at hB3 ⊢
      rw [eGk, at_rng _ GT, List.length_map]
      walk_at "d"
      rw [eW, ← eGk, eS]
      exact ⟨.inr ⟨by omega, by omega⟩, .inr ⟨by omega, by omega⟩, hB3⟩
    obtain ⟨fd, hfd⟩ : ∃ fd, fd = D.tup [.int sl, .int (max 0 (z + 1 - wAt fs as sl))] := ⟨_, rfl⟩
    refine seq_cut [.pu (tupI fs), .pu (tupI as), .pu (.int z), .pu (.str "grows"), .pu (.int L), .pu (.int (mr as)), r, .pu (.int T), .pu (lstI (wList fs as T)), .pu d, .pu (.int sl), .pu (.int (as.getD k 0)), .pu (.int G), .pu (.int k), .pu (.int mo), .pu (.int j), .pu (.int (wAt fs as sl)), .pu fd] (fun B3 hB3 => ?_) ?_
    · walk_at "d"
      rw [maxI0, ← hfd]
      exact ⟨by decide, hB3⟩
    rw [← hfd] at fin
    rcases hd with ⟨rfl, hd⟩ | ⟨n0, j0, hn, hcn0, hj0, rfl, hmin⟩
    · have f := fin _ (.inr ⟨rfl, fun n' hn' hc' => absurd hc' (hd n' hn')⟩)
      walk_at "d"
      exact f _ _ _ _ _ _
    · have lt := aLtT2 (sl : Int) (max 0 (z + 1 - wAt fs as sl)) (fs.length + (L + j0) * as.length + n0 : Nat) (max 0 (z + 1 - wAt fs as (fs.length + (L + j0) * as.length + n0)))
      rw [← hfd] at lt
      obtain ⟨od, hod⟩ : ∃ od, od = D.tup [.int (fs.length + (L + j0) * as.length + n0 : Nat), .int (max 0 (z + 1 - wAt fs as (fs.length + (L + j0) * as.length + n0)))] := ⟨_, rfl⟩
      have nis : isN od = false := by
        rw [hod]
        rfl
      rw [← hod] at lt fin ⊢
      have dist : ∀ a : Nat, (L + a) * as.length = L * as.length + a * as.length := fun a => Nat.add_mul _ _ _
      cases cl : HT.lexLt [(sl : Int), max 0 (z + 1 - wAt fs as sl)] [((fs.length + (L + j0) * as.length + n0 : Nat) : Int), max 0 (z + 1 - wAt fs as (fs.length + (L + j0) * as.length + n0))] with
      | true =>
        have hle := lexLt_le cl
        have f := fin fd (.inr ⟨rfl, fun n' hn' hc' j' hj' => by
          have h1 := hmin n' hn' hc' j' hj'
          rw [hsl, dist, dist] at hle
          omega⟩)
        show aSet 9 _ _ _
        unfold aSet aIf aOr aTest aOp aIsN aVar aC
        simp only [List.getElem?_cons_zero, List.getElem?_cons_succ, Sl.d, nis, Bool.false_eq_true, if_false, lt, cl, if_true, List.set_cons_zero, List.set_cons_succ]
        exact f _ _ _ _ _ _
      | false =>
        have hle := lexLt_ge cl
        have f := fin od (.inl ⟨rfl, n0, j0, hn, hcn0, hj0, hod, by
          rw [hsl, dist, dist] at hle
          omega, hmin⟩)
        show aSet 9 _ _ _
        unfold aSet aIf aOr aTest aOp aIsN aVar aC
        simp only [List.getElem?_cons_zero, List.getElem?_cons_succ, Sl.d, nis, Bool.false_eq_true, if_false, lt, cl, if_true, List.set_cons_zero, List.set_cons_succ]
        exact f _ _ _ _ _ _
end K43

namespace K43
open PySem L2 DL FM
local macro_rules | `(tactic| walk_at "d") => `(tactic| try simp (config := { maxSteps := 3000000 }) only [aSeq, aSet, aVar, aMov, aC, aOp, aI, aIC, aB, aAnd, aOr, aNot, aTest, aIf, aAndV, aOrV, aNotV, aChain, aIsi, aCall, aCons, aNil, aRet, aRetN, aNext, aDrop, aIfS, aNev, aFn, aTup, aLst, aNeg, aIx, aIn, aEq, aNe, aIsN, aNotN, aAsg, agTup, agCons, agNil, agName, aPar, aAug, aInt, aI1, aI2, aLen, aPart, aNoP, aSlT, aSlL, aIxO, aBor, aApp, aPut, aCallM, aCallT, aYes, aLc, aItL, aItT, aItEnT, aItEnL, aItZip, aCallK, aCatL, aCatT, aStar, aExt, aPar3, aLtT, aRepr, aRng1, aRng2, aFor, wipeS, aTupl, aList, aListRange1, aPowW, aLt, aLe, aGt, aGe,
  aIntsT_tup, aInts_lst, aBls_lst, fSum,
  Sl.d, endsD, endsM, startS, List.map, List.length_cons, List.length_nil, List.length_replicate, List.length_append, List.cons_append, List.nil_append, List.replicate, List.getElem?_cons_zero, List.getElem?_cons_succ, List.getElem?_nil, List.set_cons_zero, List.set_cons_succ, List.set_nil, Nat.zero_add, Nat.reduceAdd, Nat.reduceSub, seqD, lstD, isi, isN, eqS, flatD, if_true, if_false, ite_true, ite_false, reduceIte, Bool.false_eq_true, true_and, and_true, reduceCtorEq, at2_0, at2_1, at3_0, at3_1, at3_2, ix3_0, ix3_2, dec_t, Bool.not_true, Bool.not_false])
theorem pw6 : (10 : Int) ^ Int.toNat 6 = 1000000 := by decide +kernel
theorem pw9 : (10 : Int) ^ Int.toNat 9 = 1000000000 := by decide +kernel
theorem pw12 : (10 : Int) ^ Int.toNat 12 = 1000000000000 := by decide +kernel
theorem pw18 : (10 : Int) ^ Int.toNat 18 = 1000000000000000000 := by decide +kernel
abbrev A__law_right : AS := (aSeq (aFor (aRng1 (aCons (aC (.int 3)) aNil)) (agName 1) (aSeq (aAsg (aCallM 1 0 S__law_arrivals aNil) (agTup (agCons (agName 2) (agCons (agName 3) agNil))))
  (aSeq (aSet 4 (aCall (aFn 2 S__law_most) (aCons (aVar 2) (aCons (aVar 3) aNil))))
  (aSeq (aSet 5 (aOp aCatL (aLc (aRng1 (aCons (aC (.int 4)) aNil)) (agName 8) aYes (aCall aInt (aCons (aCallM 2 0 S__law_take (aCons (aC (.int 13)) aNil)) aNil)) [8]) (aLst (aCons (aC (.int 0)) (aCons (aPow (aC (.int 10)) (aC (.int 18))) (aCons (aSub (aPow (aC (.int 10)) (aC (.int 18))) (aCall aInt (aCons (aCallM 2 0 S__law_take (aCons (aPow (aC (.int 10)) (aC (.int 9))) aNil)) aNil))) aNil))))))
  (aSeq (aApp 5 (aCall aInt (aCons (aAdd (aPow (aC (.int 10)) (aC (.int 6))) (aCallM 2 0 S__law_take (aCons (aPow (aC (.int 10)) (aC (.int 12))) aNil))) aNil)))
  (aSeq (aExt 5 (aIf (aAnd (aTest (aOp aNotN (aVar 4) (aC .non))) (aTest (aOp aGt (aVar 4) (aC (.int 0))))) (aLst (aCons (aVar 4) (aCons (aSub (aVar 4) (aC (.int 1))) aNil))) (aLst aNil)))
  (aFor (aItL (aVar 5)) (agName 6) (aSeq (aSet 7 (aCallK 3 3 [0, 2, 1] S_first_above (aCons (aVar 2) (aCons (aVar 6) (aCons (aVar 3) aNil)))))
  (aSeq (aIfS (aTest (aOp aNe (aCall aRepr (aCons (aVar 7) aNil)) (aCall aRepr (aCons (aCall (aFn 3 S__law_first_above) (aCons (aVar 2) (aCons (aVar 3) (aCons (aVar 6) aNil)))) aNil)))) (aRet (aC (.bl false))) aNext)
  (aSeq (aIfS (aTest (aOp aNe (aOp aIsN (aVar 7) (aC .non)) (aAndV (aOp aNotN (aVar 4) (aC .non)) (aOp aLe (aVar 4) (aVar 6))))) (aRet (aC (.bl false))) aNext)
  (aIfS (aAnd (aTest (aOp aNotN (aVar 7) (aC .non))) (aAnd (aTest (aOp aLe (aOp aIx (aVar 7) (aC (.int 0))) (aPow (aC (.int 10)) (aC (.int 18))))) (aTest (aOp aLe (aCall (aFn 4 S_delay_at) (aCons (aVar 2) (aCons (aVar 3) (aCons (aOp aIx (aVar 7) (aC (.int 0))) (aCons (aOp aIx (aVar 7) (aC (.int 1))) aNil))))) (aVar 6))))) (aRet (aC (.bl false))) aNext)))))))))))
  (aRet (aC (.bl true))))
theorem law__law_right : ∀ xs ds Q p, ds.length + 1 = 1 → S__law_right xs ds Q → A__law_right (endsM Q p) (startS 9 (.ow p xs :: ds.map .pu)) := by
  intro xs ds Q p hl h
  obtain ⟨rfl, hp, h⟩ := h
  unfold A__law_right
  refine seq_cutR (fun s => ∃ xs', s[0]? = some (.ow p xs')) (fun B hB => ?_) fun s1 hs => ?_
  rotate_left
  · obtain ⟨xs', hs⟩ := hs
    exact endsM_ret _ xs' hs (h xs')
  show aFor _ _ _ _ [.ow p xs, .no, .no, .no, .no, .no, .no, .no, .no]
  refine for_rng1 (by decide) (by decide) ?_
  have e3 : Int.toNat 3 = 3 := rfl
  rw [e3, rngD_K]
  refine for_inv (fun ds s => ∃ (c : Nat) (xs' : List D) (a1 a2 a3 a4 a5 a6 a7 : Sl), s = [.ow p xs', a1, a2, a3, a4, a5, a6, a7, .no] ∧ Pot c xs' ∧ c + 220 * ds.length ≤ 1000) _ _ ⟨0, xs, .no, .no, .no, .no, .no, .no, .no, rfl, hp, by rw [rngK_len]; decide⟩ ?_ ?_
  · rintro s ⟨c, xs', a1, a2, a3, a4, a5, a6, a7, rfl, _, _⟩
    exact hB _ ⟨xs', rfl⟩
  rintro d ds s ⟨c, xs', a1, a2, a3, a4, a5, a6, a7, rfl, hc, hl2⟩ B2 hB2
  rw [List.length_cons] at hl2
  show aSeq _ _ _ [.ow p xs', .pu d, a2, a3, a4, a5, a6, a7, .no]
  refine seq_cutR (fun s => ∃ (ys : List D) (fs as : List Int), s = [.ow p ys, .pu d, .pu (tupI fs), .pu (tupI as), a4, a5, a6, a7, .no] ∧ Pot (c + 200) ys ∧ Small fs as) (fun B hB => ?_) ?_
  · walk_at "d"
    refine ⟨c, rfl, hc, by omega, fun fs as ys hs hy => ?_⟩
    walk_at "d"
    exact hB _ ⟨ys, fs, as, rfl, hy, hs⟩
  rintro s ⟨ys, fs, as, rfl, hy, hs⟩
  have hA := hs.1
  obtain ⟨g, hg⟩ : ∃ g, g = mostD fs as := ⟨_, rfl⟩
  refine seq_cut [.ow p ys, .pu d, .pu (tupI fs), .pu (tupI as), .pu g, a5, a6, a7, .no] (fun B hB => ?_) ?_
  · walk_at "d"
    refine ⟨fs, as, rfl, hs, ?_⟩
    rw [← hg]
    exact hB
  refine seq_cutR (fun s => ∃ (ws : List D) (q : Addr) (zs : List Int), s = [.ow p ws, .pu d, .pu (tupI fs), .pu (tupI as), .pu g, .ow q (zs.map D.int), a6, a7, .no] ∧ Pot (c + 205) ws ∧ zs.length ≤ 7 ∧ ∀ z ∈ zs, 0 ≤ z ∧ z ≤ 1000000000000000000) (fun B hB => ?_) ?_
  · walk_at "d"
    refine ⟨by decide, by decide, fun q => ?_⟩
    have e4 : Int.toNat 4 = 4 := rfl
    rw [e4, rngD_K]
    refine lc_inv (i := 8) (fun acc s => ∃ (ws : List D) (zs : List Int), s = [.ow p ws, .pu d, .pu (tupI fs), .pu (tupI as), .pu g, a5, a6, a7, .no] ∧ Pot (c + 200 + acc.length) ws ∧ acc = zs.map D.int ∧ ∀ z ∈ zs, 0 ≤ z ∧ z ≤ 1000000000000000000) _ [] _ _ ⟨ys, [], rfl, hy, rfl, fun _ h => by cases h⟩ (by rw [rngK_len]; decide) ?_ ?_
    · rintro acc s e ha ⟨ws, zs, rfl, hw, rfl, hb⟩ he R hR
      walk_at "d"
      refine ⟨13, c + 200 + (zs.map D.int).length, rfl, by decide, by decide, by rw [List.length_map]; simp only [List.length_map] at ha; omega, hw, fun j vs j0 j1 hv => ?_⟩
      walk_at "d"
      refine hR _ _ ⟨vs, zs ++ [j], rfl, hv.mono (by rw [List.length_append]; exact Nat.le_of_eq (by simp only [List.length_cons, List.length_nil]; omega)), by rw [List.map_append]; rfl, fun b hb2 => ?_⟩
      rcases List.mem_append.mp hb2 with h | h
      · exact hb b h
      · rw [List.mem_singleton.mp h]
        omega
    · rintro acc s ha ⟨ws, zs, rfl, hw, rfl, hb⟩
      rw [rngK_len] at ha
      simp only [List.length_map, List.length_nil] at ha
      walk_at "d"
      refine ⟨⟨by decide, by decide, by decide⟩, ⟨by decide, by decide, by decide⟩, ⟨by decide, by decide, by decide⟩, ?_⟩
      rw [pw9]
      refine ⟨1000000000, c + 204, rfl, by decide, by decide, by omega, hw.mono (by rw [List.length_map]; omega), fun j vs j0 j1 hv => ?_⟩
      walk_at "d"
      rw [pw18, List.length_map]
      refine ⟨by decide, fun q2 => ⟨by omega, fun q3 => hB _ ⟨vs, q3, zs ++ [0, 1000000000000000000, 1000000000000000000 - j], ?_, hv, by rw [List.length_append]; simp only [List.length_cons, List.length_nil]; omega, fun z hz => ?_⟩⟩⟩
      · rw [List.map_append]
        rfl
      · rcases List.mem_append.mp hz with h | h
        · exact hb z h
        · simp only [List.mem_cons, List.mem_nil_iff, or_false] at h
          rcases h with rfl | rfl | rfl <;> omega
  rintro s ⟨ws, q, zs, rfl, hw, zl, zb⟩
  refine seq_cutR (fun s => ∃ (ws : List D) (zs : List Int), s = [.ow p ws, .pu d, .pu (tupI fs), .pu (tupI as), .pu g, .ow q (zs.map D.int), a6, a7, .no] ∧ Pot (c + 206) ws ∧ zs.length ≤ 8 ∧ ∀ z ∈ zs, 0 ≤ z ∧ z ≤ 1000000000000000000) (fun B hB => ?_) ?_
  · walk_at "d"
    refine ⟨⟨by decide, by decide, by decide⟩, ⟨by decide, by decide, by decide⟩, ?_⟩
    rw [pw12]
    refine ⟨1000000000000, c + 205, rfl, by decide, by decide, by omega, hw, fun j vs j0 j1 hv => ?_⟩
    walk_at "d"
    rw [pw6, List.length_map]
    refine ⟨by omega, hB _ ⟨vs, zs ++ [1000000 + j], by rw [List.map_append]; rfl, hv, by rw [List.length_append]; simp only [List.length_cons, List.length_nil]; omega, fun z hz => ?_⟩⟩
    rcases List.mem_append.mp hz with h | h
    · exact zb z h
    · rw [List.mem_singleton.mp h]
      omega
  clear hw zl zb
  rintro s ⟨ws, zs, rfl, hw, zl, zb⟩
  have most0 : -1 ≤ mostAll fs as := mostTo_ge _
  have most1 := most_hi hA
  refine seq_cutR (fun s => ∃ (zs : List Int), s = [.ow p ws, .pu d, .pu (tupI fs), .pu (tupI as), .pu g, .ow q (zs.map D.int), a6, a7, .no] ∧ ∀ z ∈ zs, 0 ≤ z ∧ z ≤ 1000000000000000000) (fun B hB => ?_) ?_
  · by_cases hm : 0 < mr as
    · have eg : g = .non := by
        rw [hg]
        exact if_pos hm
      subst eg
      walk_at "d"
      refine ⟨by decide, fun q2 => ?_⟩
      rw [List.length_map, List.append_nil]
      exact ⟨by omega, hB _ ⟨zs, rfl, zb⟩⟩
    · have eg : g = .int (mostAll fs as) := by
        rw [hg]
        exact if_neg hm
      subst eg
      walk_at "d"
      refine ite2 (fun c1 => ?_) fun c1 => ?_
      · refine ⟨by decide, fun q2 => ?_⟩
        rw [List.length_map]
        refine ⟨by omega, hB _ ⟨zs ++ [mostAll fs as, mostAll fs as - 1], by rw [List.map_append]; rfl, fun z hz => ?_⟩⟩
        rcases List.mem_append.mp hz with h | h
        · exact zb z h
        · simp only [List.mem_cons, List.mem_nil_iff, or_false] at h
          rcases h with rfl | rfl <;> omega
      · refine ⟨by decide, fun q2 => ?_⟩
        rw [List.length_map, List.append_nil]
        exact ⟨by omega, hB _ ⟨zs, rfl, zb⟩⟩
  clear zl zb
  rintro s ⟨zs, rfl, zb⟩
  have hend : ∀ a5 a6 a7, B2 [.ow p ws, .pu d, .pu (tupI fs), .pu (tupI as), .pu g, a5, a6, a7, .no] := fun a5 a6 a7 => hB2 _ ⟨c + 206, ws, _, _, _, _, _, _, _, rfl, hw, by omega⟩
  obtain ⟨lz, hlz⟩ : ∃ lz, lz = D.lst (zs.map D.int) := ⟨_, rfl⟩
  refine for_ow (p := q) (xs := zs.map D.int) rfl ?_
  simp only [List.set_cons_zero, List.set_cons_succ]
  rw [← hlz]
  refine for_inv (fun ds s => ∃ (us : List Int) (a6 a7 : Sl), ds = us.map D.int ∧ s = [.ow p ws, .pu d, .pu (tupI fs), .pu (tupI as), .pu g, .pu lz, a6, a7, .no] ∧ ∀ z ∈ us, 0 ≤ z ∧ z ≤ 1000000000000000000) _ _ ⟨zs, a6, a7, rfl, rfl, zb⟩ ?_ ?_
  · rintro s ⟨us, a6, a7, e, rfl, _⟩
    exact hend _ _ _
  rintro e ds s ⟨us, a6, a7, ee, rfl, ub⟩ B3 hB3
  cases us with
  | nil => cases ee
  | cons z us =>
    cases ee
    obtain ⟨z0, z1⟩ := ub z List.mem_cons_self
    have hend3 : ∀ a7, B3 [.ow p ws, .pu d, .pu (tupI fs), .pu (tupI as), .pu g, .pu lz, .pu (.int z), a7, .no] := fun a7 => hB3 _ ⟨us, _, a7, rfl, rfl, fun w hw => ub w (List.mem_cons_of_mem _ hw)⟩
    show aSeq _ _ _ [.ow p ws, .pu d, .pu (tupI fs), .pu (tupI as), .pu g, .pu lz, .pu (.int z), a7, .no]
    refine seq_cutR (fun s => ∃ r, s = [.ow p ws, .pu d, .pu (tupI fs), .pu (tupI as), .pu g, .pu lz, .pu (.int z), .pu r, .no] ∧ FirstAb fs as z r) (fun B hB => ?_) ?_
    · walk_at "d"
      exact ⟨rfl, fs, as, z, rfl, hA, z0, z1, fun r hr => hB _ ⟨r, rfl, hr⟩⟩
    rintro s ⟨r, rfl, hr⟩
    have shr : shD 40 r ∧ sizD r ≤ 200000 := by
      rcases hr with ⟨rfl, _⟩ | ⟨t, rfl, he, hmin⟩
      · exact ⟨by simp only [shD], by simp only [sizD]; omega⟩
      · have tb := ab_bound hA z0 he hmin
        have w0 := wAt_nn (fs := fs) (as := as) t
        refine ⟨?_, by simp only [sizD, sizA]; omega⟩
        simp only [shD, shA]
        exact ⟨by decide, by omega, by omega, trivial⟩
    refine seq_cut [.ow p ws, .pu d, .pu (tupI fs), .pu (tupI as), .pu g, .pu lz, .pu (.int z), .pu r, .no] (fun B hB => ?_) ?_
    · walk_at "d"
      refine ⟨shr, fs, as, z, rfl, hs, z0, z1, fun r' hr' => ?_⟩
      have e := hr.un hr'
      subst e
      walk_at "d"
      exact ⟨shr, ite2 (fun c => absurd c (by simp)) fun _ => hB⟩
    have gn : ∀ e : 0 < mr as, g = .non := fun e => by
      rw [hg]
      exact if_pos e
    have gi : ∀ e : ¬ 0 < mr as, g = .int (mostAll fs as) := fun e => by
      rw [hg]
      exact if_neg e
    refine seq_cut [.ow p ws, .pu d, .pu (tupI fs), .pu (tupI as), .pu g, .pu lz, .pu (.int z), .pu r, .no] (fun B hB => ?_) ?_
    · by_cases hm : 0 < mr as
      · have eg := gn hm
        subst eg
        rcases hr with ⟨rfl, hno⟩ | ⟨t, rfl, he, hmin⟩
        · obtain ⟨u, hu, _⟩ := grow_ex hA hm z0
          exact absurd hu (hno u)
        · walk_at "d"
          exact ite2 (fun c => absurd c (by decide +kernel)) fun _ => hB
      · have eg := gi hm
        rcases hr with ⟨rfl, hno⟩ | ⟨t, rfl, he, hmin⟩
        · have hle := (most_none hA (by omega) (by omega)).mpr hno
          rw [eg] at hB ⊢
          walk_at "d"
          rw [decide_eq_true hle]
          exact ite2 (fun c => absurd c (by decide +kernel)) fun _ => hB
        · have hle : ¬ mostAll fs as ≤ z := fun c => (most_none hA (by omega) (by omega)).mp c t he
          rw [eg] at hB ⊢
          walk_at "d"
          rw [decide_eq_false hle]
          exact ite2 (fun c => absurd c (by decide +kernel)) fun _ => hB
    rcases hr with ⟨rfl, hno⟩ | ⟨t, rfl, he, hmin⟩
    · have h2 := hend3 (.pu .non)
      walk_at "d"
      exact h2
    · have h2 := hend3 (.pu (.tup [.int t, .int (max 0 (z + 1 - wAt fs as t))]))
      have w0 := wAt_nn (fs := fs) (as := as) t
      walk_at "d"
      refine ⟨⟨by decide, by decide, by decide⟩, ?_⟩
      refine ite2 (fun c0 => ?_) fun _ => h2
      have c1 : (t : Int) ≤ 1000000000000000000 := by
        rw [← pw18]
        exact c0
      refine ⟨fs, as, t, _, rfl, hA, by omega, by omega, ?_, ?_⟩
      · have := he.1
        have := he.2
        omega
      walk_at "d"
      exact ite2 (fun c2 => by omega) fun _ => h2
theorem all_true (k : Nat) : (List.replicate k true).all id = true := by
  rw [List.all_eq_true]
  intro x hx
  rw [(List.mem_replicate.mp hx).2]
  rfl
abbrev A_law : AS := (aRet (aCall (aBls fun bs => bs.all id) (aCons (aLc (aItL (aCall (aFn 2 S__law_cells) (aCons (aVar 0) (aCons (aC (.int 2)) aNil)))) (agName 1) aYes (aCallT 1 S__law_right (aCall (aFn 2 S__law_pot) (aCons (aVar 0) (aCons (aVar 1) aNil))) aNil) [1]) aNil)))
theorem law_law : ∀ ds Q, ds.length = 1 → S_law ds Q → A_law (endsD Q) (startS 2 (ds.map .pu)) := by
  intro ds Q hl h
  obtain ⟨ns, rfl, hn, h⟩ := h
  walk_at "d"
  refine ⟨ns, 2, rfl, by decide, by decide, hn, fun p k hk => ?_⟩
  walk_at "d"
  intro q
  refine lc_pure (i := 1) rfl (fun _ => .bl true) _ [] _ (fun d hd R hR => ?_) (by rw [rngD_K, rngK_len]; simp only [List.length_nil]; omega) ?_
  · rw [rngD_K] at hd
    obtain ⟨i, hi, rfl⟩ := List.mem_map.mp hd
    have hi2 := (List.mem_range'_1.mp hi).2
    walk_at "d"
    refine ⟨ns, i, rfl, by omega, by omega, hn, fun p xs hp => ?_⟩
    walk_at "d"
    exact ⟨rfl, hp, fun _ => hR⟩
  · have e : (rngD 0 k).map (fun _ => D.bl true) = (List.replicate k true).map D.bl := by
      rw [rngD_K, List.map_replicate, List.map_const', rngK_len]
    rw [List.nil_append, e]
    walk_at "d"
    have e2 : (List.replicate k true).all id = true := by
      rw [List.all_eq_true]
      intro x hx
      rw [(List.mem_replicate.mp hx).2]
      rfl
    rw [e2]
    exact h
end K43

namespace K43
open PySem L2 DL FM
def topS (i : Nat) : Stmt := PySem.Challenge.pw_queueloops_k43_the_first_delay_above_a_s.main.body.getD i (.Pass ⟨0, 0, 0, 0⟩)
abbrev s_is_integer : Stmt := topS 7
abbrev N_is_integer : List Str := ["value"]
abbrev s_is_within : Stmt := topS 8
abbrev N_is_within : List Str := ["value", "least", "most"]
abbrev s_are_counts : Stmt := topS 13
abbrev N_are_counts : List Str := ["value", "least", "count"]
abbrev s_check_arrivals : Stmt := topS 14
abbrev N_check_arrivals : List Str := ["first", "again"]
abbrev s_check_slot : Stmt := topS 15
abbrev N_check_slot : List Str := ["first", "again", "slot"]
abbrev s_run : Stmt := topS 16
abbrev N_run : List Str := ["waits", "counts", "count"]
abbrev s_lap_waits : Stmt := topS 17
abbrev N_lap_waits : List Str := ["first", "again", "lap", "begin", "more"]
abbrev s_spot_of : Stmt := topS 18
abbrev N_spot_of : List Str := ["first", "again", "slot"]
abbrev s_count_of : Stmt := topS 19
abbrev N_count_of : List Str := ["first", "again", "slot", "lap", "over"]
abbrev s_waits_ahead : Stmt := topS 20
abbrev N_waits_ahead : List Str := ["first", "again", "slot", "lap", "over"]
abbrev s_delay_at : Stmt := topS 21
abbrev N_delay_at : List Str := ["first", "again", "slot", "place"]
abbrev s_above_in : Stmt := topS 22
abbrev N_above_in : List Str := ["waits", "counts", "size", "slot", "count"]
abbrev s_least_start : Stmt := topS 23
abbrev N_least_start : List Str := ["again", "size", "found", "before", "at", "count"]
abbrev s_first_above : Stmt := topS 24
abbrev N_first_above : List Str := ["first", "again", "size", "early", "more", "lap", "found", "need", "begin"]
abbrev s__law_pot : Stmt := topS 26
abbrev N__law_pot : List Str := ["script", "place", "cell", "own", "small"]
abbrev s__law_take : Stmt := topS 27
abbrev N__law_take : List Str := ["pot", "upto", "digit", "prime", "blend"]
abbrev s__law_of : Stmt := topS 28
abbrev N__law_of : List Str := ["pot", "some"]
abbrev s__law_cells : Stmt := topS 29
abbrev N__law_cells : List Str := ["script", "most"]
abbrev s__law_arrivals : Stmt := topS 30
abbrev N__law_arrivals : List Str := ["pot", "some", "lap", "first", "many", "way", "again", "at"]
abbrev s__law_count : Stmt := topS 31
abbrev N__law_count : List Str := ["first", "again", "slot"]
abbrev s__law_waits : Stmt := topS 32
abbrev N__law_waits : List Str := ["first", "again", "slots", "found", "slot"]
abbrev s__law_laps : Stmt := topS 33
abbrev N__law_laps : List Str := ["first", "again", "many", "waits", "lap", "rows", "more"]
abbrev s__law_most : Stmt := topS 34
abbrev N__law_most : List Str := ["first", "again", "word", "lap", "number", "rows", "slots", "waits", "best", "slot", "many"]
abbrev s__law_first_above : Stmt := topS 35
abbrev N__law_first_above : List Str := ["first", "again", "size", "word", "lap", "number", "rows", "slots", "waits", "best", "slot", "many", "begin", "place", "most", "laps", "ahead", "found"]
abbrev s__law_right : Stmt := topS 36
abbrev N__law_right : List Str := ["pot", "turn", "first", "again", "greatest", "sizes", "size", "told", "lap"]
abbrev s_law : Stmt := topS 37
abbrev N_law : List Str := ["script", "place"]
structure Tx (K : PySem.W.Frag) (mg : Str → Option Value) where
  f_is_integer : Addr
  d_is_integer : FuncData
  F_is_integer : Fun K "is_integer" "is_integer" s_is_integer f_is_integer d_is_integer
  b_is_integer : Binds K d_is_integer ["value"] []
  g_is_integer : mg "is_integer" = some (.ref f_is_integer)
  f_is_within : Addr
  d_is_within : FuncData
  F_is_within : Fun K "is_within" "is_within" s_is_within f_is_within d_is_within
  b_is_within : Binds K d_is_within ["value", "least", "most"] []
  g_is_within : mg "is_within" = some (.ref f_is_within)
  f_are_counts : Addr
  d_are_counts : FuncData
  F_are_counts : Fun K "are_counts" "are_counts" s_are_counts f_are_counts d_are_counts
  b_are_counts : Binds K d_are_counts ["value", "least"] []
  g_are_counts : mg "are_counts" = some (.ref f_are_counts)
  f_check_arrivals : Addr
  d_check_arrivals : FuncData
  F_check_arrivals : Fun K "check_arrivals" "check_arrivals" s_check_arrivals f_check_arrivals d_check_arrivals
  b_check_arrivals : Binds K d_check_arrivals ["first", "again"] []
  g_check_arrivals : mg "check_arrivals" = some (.ref f_check_arrivals)
  f_check_slot : Addr
  d_check_slot : FuncData
  F_check_slot : Fun K "check_slot" "check_slot" s_check_slot f_check_slot d_check_slot
  b_check_slot : Binds K d_check_slot ["first", "again", "slot"] []
  g_check_slot : mg "check_slot" = some (.ref f_check_slot)
  f_run : Addr
  d_run : FuncData
  F_run : Fun K "run" "run" s_run f_run d_run
  b_run : Binds K d_run ["waits", "counts"] []
  g_run : mg "run" = some (.ref f_run)
  f_lap_waits : Addr
  d_lap_waits : FuncData
  F_lap_waits : Fun K "lap_waits" "lap_waits" s_lap_waits f_lap_waits d_lap_waits
  b_lap_waits : Binds K d_lap_waits ["first", "again", "lap"] []
  g_lap_waits : mg "lap_waits" = some (.ref f_lap_waits)
  f_spot_of : Addr
  d_spot_of : FuncData
  F_spot_of : Fun K "spot_of" "spot_of" s_spot_of f_spot_of d_spot_of
  b_spot_of : Binds K d_spot_of ["first", "again", "slot"] []
  g_spot_of : mg "spot_of" = some (.ref f_spot_of)
  f_count_of : Addr
  d_count_of : FuncData
  F_count_of : Fun K "count_of" "count_of" s_count_of f_count_of d_count_of
  b_count_of : Binds K d_count_of ["first", "again", "slot"] []
  g_count_of : mg "count_of" = some (.ref f_count_of)
  f_waits_ahead : Addr
  d_waits_ahead : FuncData
  F_waits_ahead : Fun K "waits_ahead" "waits_ahead" s_waits_ahead f_waits_ahead d_waits_ahead
  b_waits_ahead : Binds K d_waits_ahead ["first", "again", "slot"] []
  g_waits_ahead : mg "waits_ahead" = some (.ref f_waits_ahead)
  f_delay_at : Addr
  d_delay_at : FuncData
  F_delay_at : Fun K "delay_at" "delay_at" s_delay_at f_delay_at d_delay_at
  b_delay_at : Binds K d_delay_at ["first", "again", "slot", "place"] []
  g_delay_at : mg "delay_at" = some (.ref f_delay_at)
  f_above_in : Addr
  d_above_in : FuncData
  F_above_in : Fun K "above_in" "above_in" s_above_in f_above_in d_above_in
  b_above_in : Binds K d_above_in ["waits", "counts", "size"] []
  g_above_in : mg "above_in" = some (.ref f_above_in)
  f_least_start : Addr
  d_least_start : FuncData
  F_least_start : Fun K "least_start" "least_start" s_least_start f_least_start d_least_start
  b_least_start : Binds K d_least_start ["again", "size"] []
  g_least_start : mg "least_start" = some (.ref f_least_start)
  f_first_above : Addr
  d_first_above : FuncData
  F_first_above : Fun K "first_above" "first_above" s_first_above f_first_above d_first_above
  b_first_above : Binds K d_first_above ["first", "again", "size"] []
  g_first_above : mg "first_above" = some (.ref f_first_above)
  f__law_pot : Addr
  d__law_pot : FuncData
  F__law_pot : Fun K "_law_pot" "_law_pot" s__law_pot f__law_pot d__law_pot
  b__law_pot : Binds K d__law_pot ["script", "place"] []
  g__law_pot : mg "_law_pot" = some (.ref f__law_pot)
  f__law_take : Addr
  d__law_take : FuncData
  F__law_take : Fun K "_law_take" "_law_take" s__law_take f__law_take d__law_take
  b__law_take : Binds K d__law_take ["pot", "upto"] []
  g__law_take : mg "_law_take" = some (.ref f__law_take)
  f__law_of : Addr
  d__law_of : FuncData
  F__law_of : Fun K "_law_of" "_law_of" s__law_of f__law_of d__law_of
  b__law_of : Binds K d__law_of ["pot", "some"] []
  g__law_of : mg "_law_of" = some (.ref f__law_of)
  f__law_cells : Addr
  d__law_cells : FuncData
  F__law_cells : Fun K "_law_cells" "_law_cells" s__law_cells f__law_cells d__law_cells
  b__law_cells : Binds K d__law_cells ["script", "most"] []
  g__law_cells : mg "_law_cells" = some (.ref f__law_cells)
  f__law_arrivals : Addr
  d__law_arrivals : FuncData
  F__law_arrivals : Fun K "_law_arrivals" "_law_arrivals" s__law_arrivals f__law_arrivals d__law_arrivals
  b__law_arrivals : Binds K d__law_arrivals ["pot"] []
  g__law_arrivals : mg "_law_arrivals" = some (.ref f__law_arrivals)
  f__law_count : Addr
  d__law_count : FuncData
  F__law_count : Fun K "_law_count" "_law_count" s__law_count f__law_count d__law_count
  b__law_count : Binds K d__law_count ["first", "again", "slot"] []
  g__law_count : mg "_law_count" = some (.ref f__law_count)
  f__law_waits : Addr
  d__law_waits : FuncData
  F__law_waits : Fun K "_law_waits" "_law_waits" s__law_waits f__law_waits d__law_waits
  b__law_waits : Binds K d__law_waits ["first", "again", "slots"] []
  g__law_waits : mg "_law_waits" = some (.ref f__law_waits)
  f__law_laps : Addr
  d__law_laps : FuncData
  F__law_laps : Fun K "_law_laps" "_law_laps" s__law_laps f__law_laps d__law_laps
  b__law_laps : Binds K d__law_laps ["first", "again"] []
  g__law_laps : mg "_law_laps" = some (.ref f__law_laps)
  f__law_most : Addr
  d__law_most : FuncData
  F__law_most : Fun K "_law_most" "_law_most" s__law_most f__law_most d__law_most
  b__law_most : Binds K d__law_most ["first", "again"] []
  g__law_most : mg "_law_most" = some (.ref f__law_most)
  f__law_first_above : Addr
  d__law_first_above : FuncData
  F__law_first_above : Fun K "_law_first_above" "_law_first_above" s__law_first_above f__law_first_above d__law_first_above
  b__law_first_above : Binds K d__law_first_above ["first", "again", "size"] []
  g__law_first_above : mg "_law_first_above" = some (.ref f__law_first_above)
  f__law_right : Addr
  d__law_right : FuncData
  F__law_right : Fun K "_law_right" "_law_right" s__law_right f__law_right d__law_right
  b__law_right : Binds K d__law_right ["pot"] []
  g__law_right : mg "_law_right" = some (.ref f__law_right)
  f_law : Addr
  d_law : FuncData
  F_law : Fun K "law" "law" s_law f_law d_law
  b_law : Binds K d_law ["script"] []
  g_law : mg "law" = some (.ref f_law)
  kb_0 : KBinds K d_first_above ["first", "again", "size"] ["first", "size", "again"] (gP 3 [0, 2, 1]) (gP 3 [0, 2, 1])
  z_abs : mg "abs" = none
  z_all : mg "all" = none
  z_bool : mg "bool" = none
  z_enumerate : mg "enumerate" = none
  z_int : mg "int" = none
  z_isinstance : mg "isinstance" = none
  z_len : mg "len" = none
  z_list : mg "list" = none
  z_max : mg "max" = none
  z_min : mg "min" = none
  z_range : mg "range" = none
  z_repr : mg "repr" = none
  z_sum : mg "sum" = none
  z_tuple : mg "tuple" = none
  c_FAR : ∃ t, mg "FAR" = some (.int 1000000000000000000 t)
  c_MOST_COUNT : ∃ t, mg "MOST_COUNT" = some (.int 4 t)
  c_MOST_COUNTS : ∃ t, mg "MOST_COUNTS" = some (.int 1000 t)
section
variable {P : Program} {w : World} {K : PySem.W.Frag} {mg : Str → Option Value} {base : Heap}
theorem sc_is_integer : FnScope N_is_integer ["value"] (defScope s_is_integer) := ⟨rfl, rfl, rfl, by decide +kernel, rfl, by decide +kernel, by decide +kernel⟩
theorem ok_is_integer (T : Tx K mg) : GnOk P w K mg base CX0 1 T.f_is_integer T.d_is_integer ["value"] (spD K 1 S_is_integer) := fnD (as := A_is_integer) T.F_is_integer sc_is_integer rfl law_is_integer fun cdv A outer s H E hg hr => ⟨_,
    (ss_one (s_ret (d_and (d_isi (K := K) (hK := rfl) (T := .int) (d_var 0) T.z_isinstance (by decide +kernel) T.z_int (by decide +kernel)) (d_one (d_not (d_isi (K := K) (hK := rfl) (T := .bool) (d_var 0) T.z_isinstance (by decide +kernel) T.z_bool (by decide +kernel)))))))⟩
theorem sc_is_within : FnScope N_is_within ["value", "least", "most"] (defScope s_is_within) := ⟨rfl, rfl, rfl, by decide +kernel, rfl, by decide +kernel, by decide +kernel⟩
theorem ok_is_within (T : Tx K mg) : GnOk P w K mg base CX0 2 T.f_is_within T.d_is_within ["value", "least", "most"] (spD K 3 S_is_within) := fnD (as := A_is_within) T.F_is_within sc_is_within rfl law_is_within fun cdv A outer s H E hg hr => ⟨_,
    (ss_one (s_ret (d_and (d_call (K := K) (hK := rfl) (ok_is_integer T) hg (hr.mono (by decide)) T.g_is_integer T.F_is_integer.kp T.b_is_integer (da_cons (d_var 0) da_nil)) (d_one (d_chain op_le rd_b op_le rd_b (d_var 1) (d_var 0) (d_var 2))))))⟩
theorem sc_are_counts : FnScope N_are_counts ["value", "least"] (defScope s_are_counts) := ⟨rfl, rfl, rfl, by decide +kernel, rfl, by decide +kernel, by decide +kernel⟩
theorem ok_are_counts (T : Tx K mg) : GnOk P w K mg base CX0 3 T.f_are_counts T.d_are_counts ["value", "least"] (spD K 2 S_are_counts) := fnD (as := A_are_counts) T.F_are_counts sc_are_counts rfl law_are_counts fun cdv A outer s H E hg hr => ⟨_,
    (ss_cons (s_if (t_w (w_or (t_not (t_val (d_isi (K := K) (hK := rfl) (T := .tuple) (d_var 0) T.z_isinstance (by decide +kernel) T.z_tuple (by decide +kernel)))) (w_or1 (t_not (t_chain op_le rd_b op_le rd_b (d_var 1) (d_cb (K := K) (hK := rfl) rc_len call_len_seq T.z_len (by decide +kernel) (da_cons (d_var 0) da_nil)) (d_gint T.c_MOST_COUNTS)))))) (ss_one (s_ret d_bl)) ss_nil)
    (ss_one (s_ret (d_cb (K := K) (hK := rfl) rc_all (cr_all rfl) T.z_all (by decide +kernel) (da_cons (d_lc (own := [("count", 2)]) rfl sc_are_counts.nd (di_tup (K := K) (hK := rfl) (d_var 0)) (blkOk_by (N := N_are_counts) (sc := defScope s_are_counts) (own := [("count", 2)]) (by decide +kernel)) (by decide) (fun _ _ _ _ _ => (dg_name (i := 2) sc_are_counts.nd)) (fun _ _ _ _ _ => (d_call (K := K) (hK := rfl) (ok_is_within T) hg (hr.mono (by decide)) T.g_is_within T.F_is_within.kp T.b_is_within (da_cons (d_var 2) (da_cons d_int (da_cons (d_gint T.c_MOST_COUNT) da_nil)))))) da_nil)))))⟩
theorem sc_check_arrivals : FnScope N_check_arrivals ["first", "again"] (defScope s_check_arrivals) := ⟨rfl, rfl, rfl, by decide +kernel, rfl, by decide +kernel, by decide +kernel⟩
theorem ok_check_arrivals (T : Tx K mg) : GnOk P w K mg base CX0 4 T.f_check_arrivals T.d_check_arrivals ["first", "again"] (spD K 2 S_check_arrivals) := fnD (as := A_check_arrivals) T.F_check_arrivals sc_check_arrivals rfl law_check_arrivals fun cdv A outer s H E hg hr => ⟨_,
    (ss_one (s_if (t_w (w_or (t_not (t_val (d_call (K := K) (hK := rfl) (ok_are_counts T) hg (hr.mono (by decide)) T.g_are_counts T.F_are_counts.kp T.b_are_counts (da_cons (d_var 0) (da_cons d_int da_nil))))) (w_or1 (t_not (t_val (d_call (K := K) (hK := rfl) (ok_are_counts T) hg (hr.mono (by decide)) T.g_are_counts T.F_are_counts.kp T.b_are_counts (da_cons (d_var 1) (da_cons d_int da_nil)))))))) (ss_one s_nev) ss_nil))⟩
theorem sc_check_slot : FnScope N_check_slot ["first", "again", "slot"] (defScope s_check_slot) := ⟨rfl, rfl, rfl, by decide +kernel, rfl, by decide +kernel, by decide +kernel⟩
theorem ok_check_slot (T : Tx K mg) : GnOk P w K mg base CX0 5 T.f_check_slot T.d_check_slot ["first", "again", "slot"] (spD K 3 S_check_slot) := fnD (as := A_check_slot) T.F_check_slot sc_check_slot rfl law_check_slot fun cdv A outer s H E hg hr => ⟨_,
    (ss_cons (s_expr (d_call (K := K) (hK := rfl) (ok_check_arrivals T) hg (hr.mono (by decide)) T.g_check_arrivals T.F_check_arrivals.kp T.b_check_arrivals (da_cons (d_var 0) (da_cons (d_var 1) da_nil))))
    (ss_one (s_if (t_not (t_val (d_call (K := K) (hK := rfl) (ok_is_within T) hg (hr.mono (by decide)) T.g_is_within T.F_is_within.kp T.b_is_within (da_cons (d_var 2) (da_cons d_int (da_cons (d_gint T.c_FAR) da_nil)))))) (ss_one s_nev) ss_nil)))⟩
theorem sc_run : FnScope N_run ["waits", "counts"] (defScope s_run) := ⟨rfl, rfl, rfl, by decide +kernel, rfl, by decide +kernel, by decide +kernel⟩
theorem ok_run (T : Tx K mg) : GnOk P w K mg base CX0 1 T.f_run T.d_run ["waits", "counts"] (spD K 2 S_run) := fnD (as := A_run) T.F_run sc_run rfl law_run fun cdv A outer s H E hg hr => ⟨_,
    (ss_cons (s_for PassesOwn.never rfl (di_tup (K := K) (hK := rfl) (d_var 1)) (dg_name (i := 2) sc_run.nd) (ss_one (s_set (i := 0) sc_run.nd (d_cb (K := K) (hK := rfl) rc_i2 (cr_max2 rfl) T.z_max (by decide +kernel) (da_cons d_int (da_cons (d_sub (d_add (d_var 0) (d_var 2)) d_int) da_nil))))))
    (ss_one (s_ret (d_var 0))))⟩
theorem sc_lap_waits : FnScope N_lap_waits ["first", "again", "lap"] (defScope s_lap_waits) := ⟨rfl, rfl, rfl, by decide +kernel, rfl, by decide +kernel, by decide +kernel⟩
theorem ok_lap_waits (T : Tx K mg) : GnOk P w K mg base CX0 2 T.f_lap_waits T.d_lap_waits ["first", "again", "lap"] (spD K 3 S_lap_waits) := fnD (as := A_lap_waits) T.F_lap_waits sc_lap_waits rfl law_lap_waits fun cdv A outer s H E hg hr => ⟨_,
    (ss_cons (s_set (i := 3) sc_lap_waits.nd (d_call (K := K) (hK := rfl) (ok_run T) hg (hr.mono (by decide)) T.g_run T.F_run.kp T.b_run (da_cons d_int (da_cons (d_var 0) da_nil))))
    (ss_cons (s_if (t_cmp op_eq rd_eq (d_var 2) d_int (nomark _)) (ss_one (s_ret (d_var 3))) ss_nil)
    (ss_cons (s_set (i := 4) sc_lap_waits.nd (d_sub (d_cb (K := K) (hK := rfl) rc_sumT (cr_sumT rfl) T.z_sum (by decide +kernel) (da_cons (d_var 1) da_nil)) (d_cb (K := K) (hK := rfl) rc_len call_len_seq T.z_len (by decide +kernel) (da_cons (d_var 1) da_nil))))
    (ss_one (s_ret (d_cb (K := K) (hK := rfl) rc_i2 (cr_max2 rfl) T.z_max (by decide +kernel) (da_cons (d_add (d_var 3) (d_mul (d_var 2) (d_var 4))) (da_cons (d_add (d_call (K := K) (hK := rfl) (ok_run T) hg (hr.mono (by decide)) T.g_run T.F_run.kp T.b_run (da_cons d_int (da_cons (d_var 1) da_nil))) (d_cb (K := K) (hK := rfl) rc_i2 (cr_max2 rfl) T.z_max (by decide +kernel) (da_cons d_int (da_cons (d_mul (d_sub (d_var 2) d_int) (d_var 4)) da_nil)))) da_nil))))))))⟩
theorem sc_spot_of : FnScope N_spot_of ["first", "again", "slot"] (defScope s_spot_of) := ⟨rfl, rfl, rfl, by decide +kernel, rfl, by decide +kernel, by decide +kernel⟩
theorem ok_spot_of (T : Tx K mg) : GnOk P w K mg base CX0 1 T.f_spot_of T.d_spot_of ["first", "again", "slot"] (spD K 3 S_spot_of) := fnD (as := A_spot_of) T.F_spot_of sc_spot_of rfl law_spot_of fun cdv A outer s H E hg hr => ⟨_,
    (ss_cons (s_if (t_cmp op_lt rd_b (d_var 2) (d_cb (K := K) (hK := rfl) rc_len call_len_seq T.z_len (by decide +kernel) (da_cons (d_var 0) da_nil)) (nomark _)) (ss_one (s_ret (d_tup (da_cons (d_neg d_int) (da_cons (d_var 2) da_nil))))) ss_nil)
    (ss_one (s_ret (d_tup (da_cons (d_fdiv (d_sub (d_var 2) (d_cb (K := K) (hK := rfl) rc_len call_len_seq T.z_len (by decide +kernel) (da_cons (d_var 0) da_nil))) (d_cb (K := K) (hK := rfl) rc_len call_len_seq T.z_len (by decide +kernel) (da_cons (d_var 1) da_nil))) (da_cons (d_mod (d_sub (d_var 2) (d_cb (K := K) (hK := rfl) rc_len call_len_seq T.z_len (by decide +kernel) (da_cons (d_var 0) da_nil))) (d_cb (K := K) (hK := rfl) rc_len call_len_seq T.z_len (by decide +kernel) (da_cons (d_var 1) da_nil))) da_nil))))))⟩
theorem sc_count_of : FnScope N_count_of ["first", "again", "slot"] (defScope s_count_of) := ⟨rfl, rfl, rfl, by decide +kernel, rfl, by decide +kernel, by decide +kernel⟩
theorem ok_count_of (T : Tx K mg) : GnOk P w K mg base CX0 2 T.f_count_of T.d_count_of ["first", "again", "slot"] (spD K 3 S_count_of) := fnD (as := A_count_of) T.F_count_of sc_count_of rfl law_count_of fun cdv A outer s H E hg hr => ⟨_,
    (ss_cons (s_asg (d_call (K := K) (hK := rfl) (ok_spot_of T) hg (hr.mono (by decide)) T.g_spot_of T.F_spot_of.kp T.b_spot_of (da_cons (d_var 0) (da_cons (d_var 1) (da_cons (d_var 2) da_nil)))) (dg_tup (K := K) (hK := rfl) rfl (dgs_cons (dg_name (i := 3) sc_count_of.nd) (dgs_cons (dg_name (i := 4) sc_count_of.nd) dgs_nil))))
    (ss_one (s_ret (d_if (t_cmp op_lt rd_b (d_var 3) d_int (nomark _)) (d_ix (K := K) (hK := rfl) (d_var 0) (d_var 4)) (d_ix (K := K) (hK := rfl) (d_var 1) (d_var 4))))))⟩
theorem sc_waits_ahead : FnScope N_waits_ahead ["first", "again", "slot"] (defScope s_waits_ahead) := ⟨rfl, rfl, rfl, by decide +kernel, rfl, by decide +kernel, by decide +kernel⟩
theorem ok_waits_ahead (T : Tx K mg) : GnOk P w K mg base CX0 3 T.f_waits_ahead T.d_waits_ahead ["first", "again", "slot"] (spD K 3 S_waits_ahead) := fnD (as := A_waits_ahead) T.F_waits_ahead sc_waits_ahead rfl law_waits_ahead fun cdv A outer s H E hg hr => ⟨_,
    (ss_cons (s_asg (d_call (K := K) (hK := rfl) (ok_spot_of T) hg (hr.mono (by decide)) T.g_spot_of T.F_spot_of.kp T.b_spot_of (da_cons (d_var 0) (da_cons (d_var 1) (da_cons (d_var 2) da_nil)))) (dg_tup (K := K) (hK := rfl) rfl (dgs_cons (dg_name (i := 3) sc_waits_ahead.nd) (dgs_cons (dg_name (i := 4) sc_waits_ahead.nd) dgs_nil))))
    (ss_cons (s_if (t_cmp op_lt rd_b (d_var 3) d_int (nomark _)) (ss_one (s_ret (d_call (K := K) (hK := rfl) (ok_run T) hg (hr.mono (by decide)) T.g_run T.F_run.kp T.b_run (da_cons d_int (da_cons (d_slT (K := K) (hK := rfl) (d_var 0) do_no (do_so (d_var 4))) da_nil))))) ss_nil)
    (ss_one (s_ret (d_call (K := K) (hK := rfl) (ok_run T) hg (hr.mono (by decide)) T.g_run T.F_run.kp T.b_run (da_cons (d_call (K := K) (hK := rfl) (ok_lap_waits T) hg (hr.mono (by decide)) T.g_lap_waits T.F_lap_waits.kp T.b_lap_waits (da_cons (d_var 0) (da_cons (d_var 1) (da_cons (d_var 3) da_nil)))) (da_cons (d_slT (K := K) (hK := rfl) (d_var 1) do_no (do_so (d_var 4))) da_nil)))))))⟩
theorem sc_delay_at : FnScope N_delay_at ["first", "again", "slot", "place"] (defScope s_delay_at) := ⟨rfl, rfl, rfl, by decide +kernel, rfl, by decide +kernel, by decide +kernel⟩
theorem ok_delay_at (T : Tx K mg) : GnOk P w K mg base CX0 6 T.f_delay_at T.d_delay_at ["first", "again", "slot", "place"] (spD K 4 S_delay_at) := fnD (as := A_delay_at) T.F_delay_at sc_delay_at rfl law_delay_at fun cdv A outer s H E hg hr => ⟨_,
    (ss_cons (s_expr (d_call (K := K) (hK := rfl) (ok_check_slot T) hg (hr.mono (by decide)) T.g_check_slot T.F_check_slot.kp T.b_check_slot (da_cons (d_var 0) (da_cons (d_var 1) (da_cons (d_var 2) da_nil)))))
    (ss_cons (s_if (t_not (t_val (d_call (K := K) (hK := rfl) (ok_is_within T) hg (hr.mono (by decide)) T.g_is_within T.F_is_within.kp T.b_is_within (da_cons (d_var 3) (da_cons d_int (da_cons (d_sub (d_call (K := K) (hK := rfl) (ok_count_of T) hg (hr.mono (by decide)) T.g_count_of T.F_count_of.kp T.b_count_of (da_cons (d_var 0) (da_cons (d_var 1) (da_cons (d_var 2) da_nil)))) d_int) da_nil)))))) (ss_one s_nev) ss_nil)
    (ss_one (s_ret (d_add (d_call (K := K) (hK := rfl) (ok_waits_ahead T) hg (hr.mono (by decide)) T.g_waits_ahead T.F_waits_ahead.kp T.b_waits_ahead (da_cons (d_var 0) (da_cons (d_var 1) (da_cons (d_var 2) da_nil)))) (d_var 3))))))⟩
theorem sc_above_in : FnScope N_above_in ["waits", "counts", "size"] (defScope s_above_in) := ⟨rfl, rfl, rfl, by decide +kernel, rfl, by decide +kernel, by decide +kernel⟩
theorem ok_above_in (T : Tx K mg) : GnOk P w K mg base CX0 1 T.f_above_in T.d_above_in ["waits", "counts", "size"] (spD K 3 S_above_in) := fnD (as := A_above_in) T.F_above_in sc_above_in rfl law_above_in fun cdv A outer s H E hg hr => ⟨_,
    (ss_cons (s_for PassesOwn.never rfl (di_enumerateT (K := K) (hK := rfl) T.z_enumerate (da_cons (d_var 1) da_nil)) (dg_tup (K := K) (hK := rfl) rfl (dgs_cons (dg_name (i := 3) sc_above_in.nd) (dgs_cons (dg_name (i := 4) sc_above_in.nd) dgs_nil))) (ss_cons (s_if (t_w (w_and (t_cmp op_gt rd_b (d_sub (d_add (d_var 0) (d_var 4)) d_int) (d_var 2) (nomark _)) (w_and1 (t_cmp op_gt rd_b (d_var 4) d_int (nomark _))))) (ss_one (s_ret (d_tup (da_cons (d_var 3) (da_cons (d_cb (K := K) (hK := rfl) rc_i2 (cr_max2 rfl) T.z_max (by decide +kernel) (da_cons d_int (da_cons (d_sub (d_add (d_var 2) d_int) (d_var 0)) da_nil))) da_nil))))) ss_nil)
    (ss_one (s_set (i := 0) sc_above_in.nd (d_cb (K := K) (hK := rfl) rc_i2 (cr_max2 rfl) T.z_max (by decide +kernel) (da_cons d_int (da_cons (d_sub (d_add (d_var 0) (d_var 4)) d_int) da_nil)))))))
    (ss_one (s_ret d_non)))⟩
theorem sc_least_start : FnScope N_least_start ["again", "size"] (defScope s_least_start) := ⟨rfl, rfl, rfl, by decide +kernel, rfl, by decide +kernel, by decide +kernel⟩
theorem ok_least_start (T : Tx K mg) : GnOk P w K mg base CX0 1 T.f_least_start T.d_least_start ["again", "size"] (spD K 2 S_least_start) := fnD (as := A_least_start) T.F_least_start sc_least_start rfl law_least_start fun cdv A outer s H E hg hr => ⟨_,
    (ss_cons (s_par (i := 2) (j := 3) rfl sc_least_start.nd (d_lst da_nil) d_int (by decide) (by rfl))
    (ss_cons (s_for PassesOwn.never rfl (di_enumerateT (K := K) (hK := rfl) T.z_enumerate (da_cons (d_var 0) da_nil)) (dg_tup (K := K) (hK := rfl) rfl (dgs_cons (dg_name (i := 4) sc_least_start.nd) (dgs_cons (dg_name (i := 5) sc_least_start.nd) dgs_nil))) (ss_cons (s_if (t_cmp op_gt rd_b (d_var 5) d_int (nomark _)) (ss_one (s_app (i := 2) (d_add (d_sub (d_sub (d_add (d_var 1) d_int) (d_var 5)) (d_var 3)) (d_var 4)) (d_var 2))) ss_nil)
    (ss_one (s_augA (i := 3) sc_least_start.nd (d_var 5)))))
    (ss_one (s_ret (d_bor (K := K) (hK := rfl) (i := 2) rc_min (cr_min rfl) T.z_min (by decide +kernel) (d_var 2))))))⟩
theorem sc_first_above : FnScope N_first_above ["first", "again", "size"] (defScope s_first_above) := ⟨rfl, rfl, rfl, by decide +kernel, rfl, by decide +kernel, by decide +kernel⟩
theorem ok_first_above (T : Tx K mg) : GnOk P w K mg base CX0 5 T.f_first_above T.d_first_above ["first", "again", "size"] (spD K 3 S_first_above) := fnD (as := A_first_above) T.F_first_above sc_first_above rfl law_first_above fun cdv A outer s H E hg hr => ⟨_,
    (ss_cons (s_expr (d_call (K := K) (hK := rfl) (ok_check_arrivals T) hg (hr.mono (by decide)) T.g_check_arrivals T.F_check_arrivals.kp T.b_check_arrivals (da_cons (d_var 0) (da_cons (d_var 1) da_nil))))
    (ss_cons (s_if (t_not (t_val (d_call (K := K) (hK := rfl) (ok_is_within T) hg (hr.mono (by decide)) T.g_is_within T.F_is_within.kp T.b_is_within (da_cons (d_var 2) (da_cons d_int (da_cons (d_gint T.c_FAR) da_nil)))))) (ss_one s_nev) ss_nil)
    (ss_cons (s_set (i := 3) sc_first_above.nd (d_call (K := K) (hK := rfl) (ok_above_in T) hg (hr.mono (by decide)) T.g_above_in T.F_above_in.kp T.b_above_in (da_cons d_int (da_cons (d_var 0) (da_cons (d_var 2) da_nil)))))
    (ss_cons (s_if (t_w (w_or (t_cmp op_notN rd_notN (d_var 3) d_non (nomark _)) (w_or1 (t_cmp op_eq rd_eq (d_cb (K := K) (hK := rfl) rc_sumT (cr_sumT rfl) T.z_sum (by decide +kernel) (da_cons (d_var 1) da_nil)) d_int (nomark _))))) (ss_one (s_ret (d_var 3))) ss_nil)
    (ss_cons (s_par (i := 4) (j := 5) rfl sc_first_above.nd (d_sub (d_cb (K := K) (hK := rfl) rc_sumT (cr_sumT rfl) T.z_sum (by decide +kernel) (da_cons (d_var 1) da_nil)) (d_cb (K := K) (hK := rfl) rc_len call_len_seq T.z_len (by decide +kernel) (da_cons (d_var 1) da_nil))) d_int (by decide) (by rfl))
    (ss_cons (s_set (i := 6) sc_first_above.nd (d_call (K := K) (hK := rfl) (ok_above_in T) hg (hr.mono (by decide)) T.g_above_in T.F_above_in.kp T.b_above_in (da_cons (d_call (K := K) (hK := rfl) (ok_lap_waits T) hg (hr.mono (by decide)) T.g_lap_waits T.F_lap_waits.kp T.b_lap_waits (da_cons (d_var 0) (da_cons (d_var 1) (da_cons d_int da_nil)))) (da_cons (d_var 1) (da_cons (d_var 2) da_nil)))))
    (ss_cons (s_if (t_cmp op_isN rd_isN (d_var 6) d_non (nomark _)) (ss_cons (s_par (i := 7) (j := 8) rfl sc_first_above.nd (d_call (K := K) (hK := rfl) (ok_least_start T) hg (hr.mono (by decide)) T.g_least_start T.F_least_start.kp T.b_least_start (da_cons (d_var 1) (da_cons (d_var 2) da_nil))) (d_call (K := K) (hK := rfl) (ok_lap_waits T) hg (hr.mono (by decide)) T.g_lap_waits T.F_lap_waits.kp T.b_lap_waits (da_cons (d_var 0) (da_cons (d_var 1) (da_cons d_int da_nil)))) (by decide) (by rfl))
    (ss_cons (s_set (i := 5) sc_first_above.nd (d_if (t_cmp op_gt rd_b (d_var 4) d_int (nomark _)) (d_add d_int (d_cb (K := K) (hK := rfl) rc_i2 (cr_max2 rfl) T.z_max (by decide +kernel) (da_cons d_int (da_cons (d_fdiv (d_sub (d_add (d_sub (d_var 7) (d_var 8)) (d_var 4)) d_int) (d_var 4)) da_nil)))) d_int))
    (ss_one (s_set (i := 6) sc_first_above.nd (d_call (K := K) (hK := rfl) (ok_above_in T) hg (hr.mono (by decide)) T.g_above_in T.F_above_in.kp T.b_above_in (da_cons (d_call (K := K) (hK := rfl) (ok_lap_waits T) hg (hr.mono (by decide)) T.g_lap_waits T.F_lap_waits.kp T.b_lap_waits (da_cons (d_var 0) (da_cons (d_var 1) (da_cons (d_var 5) da_nil)))) (da_cons (d_var 1) (da_cons (d_var 2) da_nil)))))))) ss_nil)
    (ss_one (s_ret (d_if (t_cmp op_isN rd_isN (d_var 6) d_non (nomark _)) d_non (d_tup (da_cons (d_add (d_add (d_cb (K := K) (hK := rfl) rc_len call_len_seq T.z_len (by decide +kernel) (da_cons (d_var 0) da_nil)) (d_mul (d_var 5) (d_cb (K := K) (hK := rfl) rc_len call_len_seq T.z_len (by decide +kernel) (da_cons (d_var 1) da_nil)))) (d_ix (K := K) (hK := rfl) (d_var 6) d_int)) (da_cons (d_ix (K := K) (hK := rfl) (d_var 6) d_int) da_nil)))))))))))))⟩
theorem sc__law_pot : FnScope N__law_pot ["script", "place"] (defScope s__law_pot) := ⟨rfl, rfl, rfl, by decide +kernel, rfl, by decide +kernel, by decide +kernel⟩
theorem ok__law_pot (T : Tx K mg) : GnOk P w K mg base CX0 1 T.f__law_pot T.d__law_pot ["script", "place"] (spD K 2 S__law_pot) := fnD (as := A__law_pot) T.F__law_pot sc__law_pot rfl law__law_pot fun cdv A outer s H E hg hr => ⟨_,
    (ss_cons (s_set (i := 2) sc__law_pot.nd (d_if (t_cmp op_lt rd_b (d_var 1) (d_cb (K := K) (hK := rfl) rc_len call_len_seq T.z_len (by decide +kernel) (da_cons (d_var 0) da_nil)) (nomark _)) (d_ix (K := K) (hK := rfl) (d_var 0) (d_var 1)) (d_add (d_add (d_mod (d_cb (K := K) (hK := rfl) rc_sum (cr_sum rfl) T.z_sum (by decide +kernel) (da_cons (d_slL (K := K) (hK := rfl) (d_var 0) do_no (do_so d_int)) da_nil)) d_int) (d_mul d_int (d_var 1))) d_int)))
    (ss_cons (s_set (i := 3) sc__law_pot.nd (d_mul (d_mod (d_ct (K := K) (hK := rfl) rc_int call_int1 T.z_int (by decide +kernel) (da_cons (d_cb (K := K) (hK := rfl) rc_i1 cr_abs T.z_abs (by decide +kernel) (da_cons (d_var 2) da_nil)) da_nil)) (d_powW (d_pow d_int d_int) d_int)) (d_ct (K := K) (hK := rfl) rc_int call_int1 T.z_int (by decide +kernel) (da_cons (d_cmp op_ge rd_b (d_cb (K := K) (hK := rfl) rc_i1 cr_abs T.z_abs (by decide +kernel) (da_cons (d_var 2) da_nil)) (d_pow d_int d_int) (nomark _)) da_nil))))
    (ss_cons (s_set (i := 4) sc__law_pot.nd (d_mod (d_ct (K := K) (hK := rfl) rc_int call_int1 T.z_int (by decide +kernel) (da_cons (d_var 2) da_nil)) d_int))
    (ss_one (s_ret (d_lst (da_cons (d_var 3) (da_cons (d_mod (d_ct (K := K) (hK := rfl) rc_int call_int1 T.z_int (by decide +kernel) (da_cons (d_add (d_add (d_mul (d_var 4) d_int) (d_mul (d_mul d_int (d_var 1)) (d_var 1))) d_int) da_nil)) d_int) (da_cons d_int da_nil)))))))))⟩
theorem sc__law_take : FnScope N__law_take ["pot", "upto"] (defScope s__law_take) := ⟨rfl, rfl, rfl, by decide +kernel, rfl, by decide +kernel, by decide +kernel⟩
theorem ok__law_take (T : Tx K mg) : GnOk P w K mg base CX0 1 T.f__law_take T.d__law_take ["pot", "upto"] (spM K 2 S__law_take) := fnM (as := A__law_take) T.F__law_take sc__law_take rfl law__law_take fun cdv A outer s H E hg hr => ⟨_,
    (ss_cons (s_if (t_cmp op_gt rd_b (d_ixO (K := K) (hK := rfl) (i := 0) (d_var 0) d_int) d_int (nomark _)) (ss_cons (s_set (i := 2) sc__law_take.nd (d_mod (d_ct (K := K) (hK := rfl) rc_int call_int1 T.z_int (by decide +kernel) (da_cons (d_ixO (K := K) (hK := rfl) (i := 0) (d_var 0) d_int) da_nil)) (d_var 1)))
    (ss_cons (s_put (i := 0) (d_fdivW (d_ixO (K := K) (hK := rfl) (i := 0) (d_var 0) d_int) (d_var 1)) (d_var 0) d_int)
    (ss_one (s_ret (d_var 2))))) ss_nil)
    (ss_cons (s_put (i := 0) (d_add (d_ixO (K := K) (hK := rfl) (i := 0) (d_var 0) d_int) d_int) (d_var 0) d_int)
    (ss_cons (s_set (i := 3) sc__law_take.nd (d_ix (K := K) (hK := rfl) (d_lst (da_cons d_int (da_cons d_int (da_cons d_int (da_cons d_int (da_cons d_int da_nil)))))) (d_mod (d_ct (K := K) (hK := rfl) rc_int call_int1 T.z_int (by decide +kernel) (da_cons (d_ixO (K := K) (hK := rfl) (i := 0) (d_var 0) d_int) da_nil)) d_int)))
    (ss_cons (s_set (i := 4) sc__law_take.nd (d_mod (d_ct (K := K) (hK := rfl) rc_int call_int1 T.z_int (by decide +kernel) (da_cons (d_pow (d_ct (K := K) (hK := rfl) rc_int call_int1 T.z_int (by decide +kernel) (da_cons (d_add (d_add (d_ixO (K := K) (hK := rfl) (i := 0) (d_var 0) d_int) (d_mul (d_mul d_int (d_ixO (K := K) (hK := rfl) (i := 0) (d_var 0) d_int)) (d_ixO (K := K) (hK := rfl) (i := 0) (d_var 0) d_int))) d_int) da_nil)) d_int) da_nil)) (d_var 3)))
    (ss_cons (s_set (i := 4) sc__law_take.nd (d_mod (d_ct (K := K) (hK := rfl) rc_int call_int1 T.z_int (by decide +kernel) (da_cons (d_mul (d_var 4) (d_add (d_mod (d_ct (K := K) (hK := rfl) rc_int call_int1 T.z_int (by decide +kernel) (da_cons (d_var 4) da_nil)) d_int) (d_mul d_int (d_ixO (K := K) (hK := rfl) (i := 0) (d_var 0) d_int)))) da_nil)) d_int))
    (ss_one (s_ret (d_mod (d_ct (K := K) (hK := rfl) rc_int call_int1 T.z_int (by decide +kernel) (da_cons (d_fdivW (d_var 4) d_int) da_nil)) (d_var 1)))))))))⟩
theorem sc__law_of : FnScope N__law_of ["pot", "some"] (defScope s__law_of) := ⟨rfl, rfl, rfl, by decide +kernel, rfl, by decide +kernel, by decide +kernel⟩
theorem ok__law_of (T : Tx K mg) : GnOk P w K mg base CX0 2 T.f__law_of T.d__law_of ["pot", "some"] (spM K 2 S__law_of) := fnM (as := A__law_of) T.F__law_of sc__law_of rfl law__law_of fun cdv A outer s H E hg hr => ⟨_,
    (ss_one (s_ret (d_ix (K := K) (hK := rfl) (d_var 1) (d_callM (K := K) (hK := rfl) (j := 0) (ok__law_take T) hg (hr.mono (by decide)) T.g__law_take T.F__law_take.kp T.b__law_take (d_var 0) (da_cons (d_cb (K := K) (hK := rfl) rc_len call_len_seq T.z_len (by decide +kernel) (da_cons (d_var 1) da_nil)) da_nil)))))⟩
theorem sc__law_cells : FnScope N__law_cells ["script", "most"] (defScope s__law_cells) := ⟨rfl, rfl, rfl, by decide +kernel, rfl, by decide +kernel, by decide +kernel⟩
theorem ok__law_cells (T : Tx K mg) : GnOk P w K mg base CX0 1 T.f__law_cells T.d__law_cells ["script", "most"] (spD K 2 S__law_cells) := fnD (as := A__law_cells) T.F__law_cells sc__law_cells rfl law__law_cells fun cdv A outer s H E hg hr => ⟨_,
    (ss_one (s_ret (d_list_range1 T.z_list T.z_range rfl (d_cb (K := K) (hK := rfl) rc_i2 (cr_max2 rfl) T.z_max (by decide +kernel) (da_cons d_int (da_cons (d_cb (K := K) (hK := rfl) rc_i2 (cr_min2 rfl) T.z_min (by decide +kernel) (da_cons (d_var 1) (da_cons (d_cb (K := K) (hK := rfl) rc_len call_len_seq T.z_len (by decide +kernel) (da_cons (d_var 0) da_nil)) da_nil))) da_nil))))))⟩
theorem sc__law_arrivals : FnScope N__law_arrivals ["pot"] (defScope s__law_arrivals) := ⟨rfl, rfl, rfl, by decide +kernel, rfl, by decide +kernel, by decide +kernel⟩
theorem ok__law_arrivals (T : Tx K mg) : GnOk P w K mg base CX0 3 T.f__law_arrivals T.d__law_arrivals ["pot"] (spM K 1 S__law_arrivals) := fnM (as := A__law_arrivals) T.F__law_arrivals sc__law_arrivals rfl law__law_arrivals fun cdv A outer s H E hg hr => ⟨_,
    (ss_cons (s_set (i := 1) sc__law_arrivals.nd (d_callM (K := K) (hK := rfl) (j := 0) (ok__law_of T) hg (hr.mono (by decide)) T.g__law_of T.F__law_of.kp T.b__law_of (d_var 0) (da_cons (d_lst (da_cons (d_lst (da_cons d_int (da_cons d_int (da_cons d_int (da_cons d_int (da_cons d_int (da_cons d_int da_nil))))))) (da_cons (d_lst (da_cons d_int (da_cons d_int (da_cons d_int da_nil)))) (da_cons (d_lst (da_cons d_int (da_cons d_int (da_cons d_int da_nil)))) da_nil)))) da_nil)))
    (ss_cons (s_lc (own := [("lap", 2)]) rfl sc__law_arrivals.nd (di_rng1 T.z_range (da_cons (d_callM (K := K) (hK := rfl) (j := 0) (ok__law_take T) hg (hr.mono (by decide)) T.g__law_take T.F__law_take.kp T.b__law_take (d_var 0) (da_cons (d_callM (K := K) (hK := rfl) (j := 0) (ok__law_of T) hg (hr.mono (by decide)) T.g__law_of T.F__law_of.kp T.b__law_of (d_var 0) (da_cons (d_lst (da_cons d_int (da_cons d_int (da_cons d_int da_nil)))) da_nil)) da_nil)) da_nil)) (blkOk_by (N := N__law_arrivals) (sc := defScope s__law_arrivals) (own := [("lap", 2)]) (by decide +kernel)) (by decide) (fun _ _ _ _ _ => (dg_name (i := 2) sc__law_arrivals.nd)) (fun _ _ _ _ _ => (d_ct (K := K) (hK := rfl) rc_int call_int1 T.z_int (by decide +kernel) (da_cons (d_callM (K := K) (hK := rfl) (j := 0) (ok__law_of T) hg (hr.mono (by decide)) T.g__law_of T.F__law_of.kp T.b__law_of (d_var 0) (da_cons (d_var 1) da_nil)) da_nil))) (sw_true rfl rfl rfl (by decide +kernel)))
    (ss_cons (s_asg (d_tup (da_cons (d_add d_int (d_callM (K := K) (hK := rfl) (j := 0) (ok__law_take T) hg (hr.mono (by decide)) T.g__law_take T.F__law_take.kp T.b__law_take (d_var 0) (da_cons d_int da_nil))) (da_cons (d_callM (K := K) (hK := rfl) (j := 0) (ok__law_take T) hg (hr.mono (by decide)) T.g__law_take T.F__law_take.kp T.b__law_take (d_var 0) (da_cons d_int da_nil)) da_nil))) (dg_tup (K := K) (hK := rfl) rfl (dgs_cons (dg_name (i := 4) sc__law_arrivals.nd) (dgs_cons (dg_name (i := 5) sc__law_arrivals.nd) dgs_nil))))
    (ss_cons (s_lc (own := [("lap", 2)]) rfl sc__law_arrivals.nd (di_rng1 T.z_range (da_cons (d_var 4) da_nil)) (blkOk_by (N := N__law_arrivals) (sc := defScope s__law_arrivals) (own := [("lap", 2)]) (by decide +kernel)) (by decide) (fun _ _ _ _ _ => (dg_name (i := 2) sc__law_arrivals.nd)) (fun _ _ _ _ _ => (d_ct (K := K) (hK := rfl) rc_int call_int1 T.z_int (by decide +kernel) (da_cons (d_callM (K := K) (hK := rfl) (j := 0) (ok__law_of T) hg (hr.mono (by decide)) T.g__law_of T.F__law_of.kp T.b__law_of (d_var 0) (da_cons (d_ix (K := K) (hK := rfl) (d_lst (da_cons (d_lst (da_cons d_int (da_cons d_int (da_cons d_int (da_cons d_int da_nil))))) (da_cons (d_lst (da_cons d_int (da_cons d_int (da_cons d_int da_nil)))) (da_cons (d_lst (da_cons d_int (da_cons d_int (da_cons d_int (da_cons d_int da_nil))))) (da_cons (d_lst (da_cons d_int da_nil)) (da_cons (d_lst (da_cons d_int (da_cons d_int (da_cons d_int da_nil)))) da_nil)))))) (d_var 5)) da_nil)) da_nil))) (sw_true rfl rfl rfl (by decide +kernel)))
    (ss_cons (s_if (t_cmp op_eq rd_eq (d_callM (K := K) (hK := rfl) (j := 0) (ok__law_take T) hg (hr.mono (by decide)) T.g__law_take T.F__law_take.kp T.b__law_take (d_var 0) (da_cons d_int da_nil)) d_int (nomark _)) (ss_one (s_for PassesOwn.never rfl (di_rng1 T.z_range (da_cons (d_mul d_int (d_var 4)) da_nil)) (dg_name (i := 2) sc__law_arrivals.nd) (ss_cons (s_set (i := 7) sc__law_arrivals.nd (d_callM (K := K) (hK := rfl) (j := 0) (ok__law_take T) hg (hr.mono (by decide)) T.g__law_take T.F__law_take.kp T.b__law_take (d_var 0) (da_cons (d_var 4) da_nil)))
    (ss_one (s_if (t_w (w_and (t_cmp op_gt rd_b (d_bor (K := K) (hK := rfl) (i := 6) rc_sum (cr_sum rfl) T.z_sum (by decide +kernel) (d_var 6)) (d_var 4) (nomark _)) (w_and1 (t_cmp op_gt rd_b (d_ixO (K := K) (hK := rfl) (i := 6) (d_var 6) (d_var 7)) d_int (nomark _))))) (ss_one (s_put (i := 6) (d_sub (d_ixO (K := K) (hK := rfl) (i := 6) (d_var 6) (d_var 7)) d_int) (d_var 6) (d_var 7))) (ss_one (s_if (t_w (w_and (t_cmp op_lt rd_b (d_bor (K := K) (hK := rfl) (i := 6) rc_sum (cr_sum rfl) T.z_sum (by decide +kernel) (d_var 6)) (d_var 4) (nomark _)) (w_and1 (t_cmp op_lt rd_b (d_ixO (K := K) (hK := rfl) (i := 6) (d_var 6) (d_var 7)) d_int (nomark _))))) (ss_one (s_put (i := 6) (d_add (d_ixO (K := K) (hK := rfl) (i := 6) (d_var 6) (d_var 7)) d_int) (d_var 6) (d_var 7))) ss_nil))))))) ss_nil)
    (ss_one (s_ret (d_tup (da_cons (d_ct (K := K) (hK := rfl) rc_tupl call_tuple_of T.z_tuple (by decide +kernel) (da_cons (d_var 3) da_nil)) (da_cons (d_ct (K := K) (hK := rfl) rc_tupl call_tuple_of T.z_tuple (by decide +kernel) (da_cons (d_var 6) da_nil)) da_nil))))))))))⟩
theorem sc__law_count : FnScope N__law_count ["first", "again", "slot"] (defScope s__law_count) := ⟨rfl, rfl, rfl, by decide +kernel, rfl, by decide +kernel, by decide +kernel⟩
theorem ok__law_count (T : Tx K mg) : GnOk P w K mg base CX0 1 T.f__law_count T.d__law_count ["first", "again", "slot"] (spD K 3 S__law_count) := fnD (as := A__law_count) T.F__law_count sc__law_count rfl law__law_count fun cdv A outer s H E hg hr => ⟨_,
    (ss_one (s_ret (d_if (t_cmp op_lt rd_b (d_var 2) (d_cb (K := K) (hK := rfl) rc_len call_len_seq T.z_len (by decide +kernel) (da_cons (d_var 0) da_nil)) (nomark _)) (d_ix (K := K) (hK := rfl) (d_var 0) (d_var 2)) (d_ix (K := K) (hK := rfl) (d_var 1) (d_mod (d_sub (d_var 2) (d_cb (K := K) (hK := rfl) rc_len call_len_seq T.z_len (by decide +kernel) (da_cons (d_var 0) da_nil))) (d_cb (K := K) (hK := rfl) rc_len call_len_seq T.z_len (by decide +kernel) (da_cons (d_var 1) da_nil)))))))⟩
theorem sc__law_waits : FnScope N__law_waits ["first", "again", "slots"] (defScope s__law_waits) := ⟨rfl, rfl, rfl, by decide +kernel, rfl, by decide +kernel, by decide +kernel⟩
theorem ok__law_waits (T : Tx K mg) : GnOk P w K mg base CX0 2 T.f__law_waits T.d__law_waits ["first", "again", "slots"] (spD K 3 S__law_waits) := fnD (as := A__law_waits) T.F__law_waits sc__law_waits rfl law__law_waits fun cdv A outer s H E hg hr => ⟨_,
    (ss_cons (s_set (i := 3) sc__law_waits.nd (d_lst (da_cons d_int da_nil)))
    (ss_cons (s_for PassesOwn.never rfl (di_rng1 T.z_range (da_cons (d_var 2) da_nil)) (dg_name (i := 4) sc__law_waits.nd) (ss_one (s_app (i := 3) (d_cb (K := K) (hK := rfl) rc_i2 (cr_max2 rfl) T.z_max (by decide +kernel) (da_cons d_int (da_cons (d_sub (d_add (d_ixO (K := K) (hK := rfl) (i := 3) (d_var 3) (d_neg d_int)) (d_call (K := K) (hK := rfl) (ok__law_count T) hg (hr.mono (by decide)) T.g__law_count T.F__law_count.kp T.b__law_count (da_cons (d_var 0) (da_cons (d_var 1) (da_cons (d_var 4) da_nil))))) d_int) da_nil))) (d_var 3))))
    (ss_one (s_ret (d_var 3)))))⟩
theorem sc__law_laps : FnScope N__law_laps ["first", "again"] (defScope s__law_laps) := ⟨rfl, rfl, rfl, by decide +kernel, rfl, by decide +kernel, by decide +kernel⟩
theorem ok__law_laps (T : Tx K mg) : GnOk P w K mg base CX0 3 T.f__law_laps T.d__law_laps ["first", "again"] (spD K 2 S__law_laps) := fnD (as := A__law_laps) T.F__law_laps sc__law_laps rfl law__law_laps fun cdv A outer s H E hg hr => ⟨_,
    (ss_cons (s_set (i := 2) sc__law_laps.nd (d_add (d_add (d_mul d_int (d_cb (K := K) (hK := rfl) rc_len call_len_seq T.z_len (by decide +kernel) (da_cons (d_var 0) da_nil))) (d_mul d_int (d_cb (K := K) (hK := rfl) rc_len call_len_seq T.z_len (by decide +kernel) (da_cons (d_var 1) da_nil)))) d_int))
    (ss_cons (s_set (i := 3) sc__law_laps.nd (d_call (K := K) (hK := rfl) (ok__law_waits T) hg (hr.mono (by decide)) T.g__law_waits T.F__law_waits.kp T.b__law_waits (da_cons (d_var 0) (da_cons (d_var 1) (da_cons (d_add (d_cb (K := K) (hK := rfl) rc_len call_len_seq T.z_len (by decide +kernel) (da_cons (d_var 0) da_nil)) (d_mul (d_var 2) (d_cb (K := K) (hK := rfl) rc_len call_len_seq T.z_len (by decide +kernel) (da_cons (d_var 1) da_nil)))) da_nil)))))
    (ss_cons (s_lc (own := [("lap", 4)]) rfl sc__law_laps.nd (di_rng1 T.z_range (da_cons (d_add (d_var 2) d_int) da_nil)) (blkOk_by (N := N__law_laps) (sc := defScope s__law_laps) (own := [("lap", 4)]) (by decide +kernel)) (by decide) (fun _ _ _ _ _ => (dg_name (i := 4) sc__law_laps.nd)) (fun _ _ _ _ _ => (d_ct (K := K) (hK := rfl) rc_int call_int1 T.z_int (by decide +kernel) (da_cons (d_ix (K := K) (hK := rfl) (d_var 3) (d_add (d_cb (K := K) (hK := rfl) rc_len call_len_seq T.z_len (by decide +kernel) (da_cons (d_var 0) da_nil)) (d_mul (d_var 4) (d_cb (K := K) (hK := rfl) rc_len call_len_seq T.z_len (by decide +kernel) (da_cons (d_var 1) da_nil))))) da_nil))) (sw_true rfl rfl rfl (by decide +kernel)))
    (ss_cons (s_set (i := 6) sc__law_laps.nd (d_cb (K := K) (hK := rfl) rc_i2 (cr_max2 rfl) T.z_max (by decide +kernel) (da_cons d_int (da_cons (d_sub (d_cb (K := K) (hK := rfl) rc_sumT (cr_sumT rfl) T.z_sum (by decide +kernel) (da_cons (d_var 1) da_nil)) (d_cb (K := K) (hK := rfl) rc_len call_len_seq T.z_len (by decide +kernel) (da_cons (d_var 1) da_nil))) da_nil))))
    (ss_cons (s_set (i := 4) sc__law_laps.nd (d_var 2))
    (ss_cons (s_while PassesOwn.never (t_w (w_and (t_cmp op_gt rd_b (d_var 4) d_int (nomark _)) (w_and1 (t_cmp op_eq rd_eq (d_sub (d_ix (K := K) (hK := rfl) (d_var 5) (d_var 4)) (d_ix (K := K) (hK := rfl) (d_var 5) (d_sub (d_var 4) d_int))) (d_var 6) (nomark _))))) (ss_one (s_set (i := 4) sc__law_laps.nd (d_sub (d_var 4) d_int))))
    (ss_one (s_ret (d_if (t_cmp op_gt rd_b (d_var 6) d_int (nomark _)) (d_tup (da_cons d_str (da_cons (d_ct (K := K) (hK := rfl) rc_int call_int1 T.z_int (by decide +kernel) (da_cons (d_var 4) da_nil)) (da_cons (d_ct (K := K) (hK := rfl) rc_int call_int1 T.z_int (by decide +kernel) (da_cons (d_var 6) da_nil)) (da_cons (d_var 5) da_nil))))) (d_tup (da_cons d_str (da_cons (d_ct (K := K) (hK := rfl) rc_int call_int1 T.z_int (by decide +kernel) (da_cons (d_var 4) da_nil)) (da_cons (d_ct (K := K) (hK := rfl) rc_int call_int1 T.z_int (by decide +kernel) (da_cons (d_ix (K := K) (hK := rfl) (d_var 5) (d_var 4)) da_nil)) (da_cons (d_var 5) da_nil))))))))))))))⟩
theorem sc__law_most : FnScope N__law_most ["first", "again"] (defScope s__law_most) := ⟨rfl, rfl, rfl, by decide +kernel, rfl, by decide +kernel, by decide +kernel⟩
theorem ok__law_most (T : Tx K mg) : GnOk P w K mg base CX0 4 T.f__law_most T.d__law_most ["first", "again"] (spD K 2 S__law_most) := fnD (as := A__law_most) T.F__law_most sc__law_most rfl law__law_most fun cdv A outer s H E hg hr => ⟨_,
    (ss_cons (s_asg (d_call (K := K) (hK := rfl) (ok__law_laps T) hg (hr.mono (by decide)) T.g__law_laps T.F__law_laps.kp T.b__law_laps (da_cons (d_var 0) (da_cons (d_var 1) da_nil))) (dg_tup (K := K) (hK := rfl) rfl (dgs_cons (dg_name (i := 2) sc__law_most.nd) (dgs_cons (dg_name (i := 3) sc__law_most.nd) (dgs_cons (dg_name (i := 4) sc__law_most.nd) (dgs_cons (dg_name (i := 5) sc__law_most.nd) dgs_nil))))))
    (ss_cons (s_if (t_cmp op_eq rd_eq (d_var 2) d_str (nomark _)) (ss_one (s_ret d_non)) ss_nil)
    (ss_cons (s_set (i := 6) sc__law_most.nd (d_add (d_cb (K := K) (hK := rfl) rc_len call_len_seq T.z_len (by decide +kernel) (da_cons (d_var 0) da_nil)) (d_mul (d_add (d_var 3) d_int) (d_cb (K := K) (hK := rfl) rc_len call_len_seq T.z_len (by decide +kernel) (da_cons (d_var 1) da_nil)))))
    (ss_cons (s_par (i := 7) (j := 8) rfl sc__law_most.nd (d_call (K := K) (hK := rfl) (ok__law_waits T) hg (hr.mono (by decide)) T.g__law_waits T.F__law_waits.kp T.b__law_waits (da_cons (d_var 0) (da_cons (d_var 1) (da_cons (d_var 6) da_nil)))) (d_neg d_int) (by decide) (by rfl))
    (ss_cons (s_for PassesOwn.never rfl (di_rng1 T.z_range (da_cons (d_var 6) da_nil)) (dg_name (i := 9) sc__law_most.nd) (ss_cons (s_set (i := 10) sc__law_most.nd (d_call (K := K) (hK := rfl) (ok__law_count T) hg (hr.mono (by decide)) T.g__law_count T.F__law_count.kp T.b__law_count (da_cons (d_var 0) (da_cons (d_var 1) (da_cons (d_var 9) da_nil)))))
    (ss_one (s_set (i := 8) sc__law_most.nd (d_if (t_cmp op_gt rd_b (d_var 10) d_int (nomark _)) (d_cb (K := K) (hK := rfl) rc_i2 (cr_max2 rfl) T.z_max (by decide +kernel) (da_cons (d_var 8) (da_cons (d_sub (d_add (d_ix (K := K) (hK := rfl) (d_var 7) (d_var 9)) (d_var 10)) d_int) da_nil))) (d_var 8))))))
    (ss_one (s_ret (d_ct (K := K) (hK := rfl) rc_int call_int1 T.z_int (by decide +kernel) (da_cons (d_var 8) da_nil)))))))))⟩
theorem sc__law_first_above : FnScope N__law_first_above ["first", "again", "size"] (defScope s__law_first_above) := ⟨rfl, rfl, rfl, by decide +kernel, rfl, by decide +kernel, by decide +kernel⟩
theorem ok__law_first_above (T : Tx K mg) : GnOk P w K mg base CX0 4 T.f__law_first_above T.d__law_first_above ["first", "again", "size"] (spD K 3 S__law_first_above) := fnD (as := A__law_first_above) T.F__law_first_above sc__law_first_above rfl law__law_first_above fun cdv A outer s H E hg hr => ⟨_,
    (ss_cons (s_asg (d_call (K := K) (hK := rfl) (ok__law_laps T) hg (hr.mono (by decide)) T.g__law_laps T.F__law_laps.kp T.b__law_laps (da_cons (d_var 0) (da_cons (d_var 1) da_nil))) (dg_tup (K := K) (hK := rfl) rfl (dgs_cons (dg_name (i := 3) sc__law_first_above.nd) (dgs_cons (dg_name (i := 4) sc__law_first_above.nd) (dgs_cons (dg_name (i := 5) sc__law_first_above.nd) (dgs_cons (dg_name (i := 6) sc__law_first_above.nd) dgs_nil))))))
    (ss_cons (s_set (i := 7) sc__law_first_above.nd (d_add (d_cb (K := K) (hK := rfl) rc_len call_len_seq T.z_len (by decide +kernel) (da_cons (d_var 0) da_nil)) (d_mul (d_add (d_var 4) d_int) (d_cb (K := K) (hK := rfl) rc_len call_len_seq T.z_len (by decide +kernel) (da_cons (d_var 1) da_nil)))))
    (ss_cons (s_par (i := 8) (j := 9) rfl sc__law_first_above.nd (d_call (K := K) (hK := rfl) (ok__law_waits T) hg (hr.mono (by decide)) T.g__law_waits T.F__law_waits.kp T.b__law_waits (da_cons (d_var 0) (da_cons (d_var 1) (da_cons (d_var 7) da_nil)))) d_non (by decide) (by rfl))
    (ss_cons (s_for PassesOwn.never rfl (di_rng1 T.z_range (da_cons (d_var 7) da_nil)) (dg_name (i := 10) sc__law_first_above.nd) (ss_cons (s_set (i := 11) sc__law_first_above.nd (d_call (K := K) (hK := rfl) (ok__law_count T) hg (hr.mono (by decide)) T.g__law_count T.F__law_count.kp T.b__law_count (da_cons (d_var 0) (da_cons (d_var 1) (da_cons (d_var 10) da_nil)))))
    (ss_one (s_if (t_w (w_and (t_cmp op_gt rd_b (d_sub (d_add (d_ix (K := K) (hK := rfl) (d_var 8) (d_var 10)) (d_var 11)) d_int) (d_var 2) (nomark _)) (w_and1 (t_cmp op_gt rd_b (d_var 11) d_int (nomark _))))) (ss_one (s_ret (d_tup (da_cons (d_ct (K := K) (hK := rfl) rc_int call_int1 T.z_int (by decide +kernel) (da_cons (d_var 10) da_nil)) (da_cons (d_ct (K := K) (hK := rfl) rc_int call_int1 T.z_int (by decide +kernel) (da_cons (d_cb (K := K) (hK := rfl) rc_i2 (cr_max2 rfl) T.z_max (by decide +kernel) (da_cons d_int (da_cons (d_sub (d_add (d_var 2) d_int) (d_ix (K := K) (hK := rfl) (d_var 8) (d_var 10))) da_nil))) da_nil)) da_nil))))) ss_nil))))
    (ss_cons (s_if (t_cmp op_eq rd_eq (d_var 3) d_str (nomark _)) (ss_one (s_ret d_non)) ss_nil)
    (ss_cons (s_set (i := 12) sc__law_first_above.nd (d_add (d_cb (K := K) (hK := rfl) rc_len call_len_seq T.z_len (by decide +kernel) (da_cons (d_var 0) da_nil)) (d_mul (d_var 4) (d_cb (K := K) (hK := rfl) rc_len call_len_seq T.z_len (by decide +kernel) (da_cons (d_var 1) da_nil)))))
    (ss_cons (s_for PassesOwn.never rfl (di_enumerateT (K := K) (hK := rfl) T.z_enumerate (da_cons (d_var 1) da_nil)) (dg_tup (K := K) (hK := rfl) rfl (dgs_cons (dg_name (i := 13) sc__law_first_above.nd) (dgs_cons (dg_name (i := 11) sc__law_first_above.nd) dgs_nil))) (ss_one (s_if (t_cmp op_gt rd_b (d_var 11) d_int (nomark _)) (ss_cons (s_set (i := 14) sc__law_first_above.nd (d_sub (d_add (d_ix (K := K) (hK := rfl) (d_var 8) (d_add (d_var 12) (d_var 13))) (d_var 11)) d_int))
    (ss_cons (s_set (i := 15) sc__law_first_above.nd (d_add (d_fdiv (d_sub (d_var 2) (d_var 14)) (d_var 5)) d_int))
    (ss_cons (s_par (i := 10) (j := 16) rfl sc__law_first_above.nd (d_add (d_add (d_var 12) (d_var 13)) (d_mul (d_var 15) (d_cb (K := K) (hK := rfl) rc_len call_len_seq T.z_len (by decide +kernel) (da_cons (d_var 1) da_nil)))) (d_add (d_ix (K := K) (hK := rfl) (d_var 8) (d_add (d_var 12) (d_var 13))) (d_mul (d_var 15) (d_var 5))) (by decide) (by rfl))
    (ss_cons (s_set (i := 17) sc__law_first_above.nd (d_tup (da_cons (d_ct (K := K) (hK := rfl) rc_int call_int1 T.z_int (by decide +kernel) (da_cons (d_var 10) da_nil)) (da_cons (d_ct (K := K) (hK := rfl) rc_int call_int1 T.z_int (by decide +kernel) (da_cons (d_cb (K := K) (hK := rfl) rc_i2 (cr_max2 rfl) T.z_max (by decide +kernel) (da_cons d_int (da_cons (d_sub (d_add (d_var 2) d_int) (d_var 16)) da_nil))) da_nil)) da_nil))))
    (ss_one (s_set (i := 9) sc__law_first_above.nd (d_if (t_w (w_or (t_cmp op_isN rd_isN (d_var 9) d_non (nomark _)) (w_or1 (t_ltT (K := K) (hK := rfl) hr (d_var 17) (d_var 9))))) (d_var 17) (d_var 9)))))))) ss_nil)))
    (ss_one (s_ret (d_var 9))))))))))⟩
theorem sc__law_right : FnScope N__law_right ["pot"] (defScope s__law_right) := ⟨rfl, rfl, rfl, by decide +kernel, rfl, by decide +kernel, by decide +kernel⟩
theorem ok__law_right (T : Tx K mg) : GnOk P w K mg base CX0 7 T.f__law_right T.d__law_right ["pot"] (spM K 1 S__law_right) := fnM (as := A__law_right) T.F__law_right sc__law_right rfl law__law_right fun cdv A outer s H E hg hr => ⟨_,
    (ss_cons (s_for PassesOwn.never rfl (di_rng1 T.z_range (da_cons d_int da_nil)) (dg_name (i := 1) sc__law_right.nd) (ss_cons (s_asg (d_callM (K := K) (hK := rfl) (j := 0) (ok__law_arrivals T) hg (hr.mono (by decide)) T.g__law_arrivals T.F__law_arrivals.kp T.b__law_arrivals (d_var 0) da_nil) (dg_tup (K := K) (hK := rfl) rfl (dgs_cons (dg_name (i := 2) sc__law_right.nd) (dgs_cons (dg_name (i := 3) sc__law_right.nd) dgs_nil))))
    (ss_cons (s_set (i := 4) sc__law_right.nd (d_call (K := K) (hK := rfl) (ok__law_most T) hg (hr.mono (by decide)) T.g__law_most T.F__law_most.kp T.b__law_most (da_cons (d_var 2) (da_cons (d_var 3) da_nil))))
    (ss_cons (s_set (i := 5) sc__law_right.nd (d_cat_lst (d_lc (own := [("lap", 8)]) rfl sc__law_right.nd (di_rng1 T.z_range (da_cons d_int da_nil)) (blkOk_by (N := N__law_right) (sc := defScope s__law_right) (own := [("lap", 8)]) (by decide +kernel)) (by decide) (fun _ _ _ _ _ => (dg_name (i := 8) sc__law_right.nd)) (fun _ _ _ _ _ => (d_ct (K := K) (hK := rfl) rc_int call_int1 T.z_int (by decide +kernel) (da_cons (d_callM (K := K) (hK := rfl) (j := 0) (ok__law_take T) hg (hr.mono (by decide)) T.g__law_take T.F__law_take.kp T.b__law_take (d_var 0) (da_cons d_int da_nil)) da_nil)))) (d_lst (da_cons d_int (da_cons (d_pow d_int d_int) (da_cons (d_sub (d_pow d_int d_int) (d_ct (K := K) (hK := rfl) rc_int call_int1 T.z_int (by decide +kernel) (da_cons (d_callM (K := K) (hK := rfl) (j := 0) (ok__law_take T) hg (hr.mono (by decide)) T.g__law_take T.F__law_take.kp T.b__law_take (d_var 0) (da_cons (d_pow d_int d_int) da_nil)) da_nil))) da_nil))))))
    (ss_cons (s_app (i := 5) (d_ct (K := K) (hK := rfl) rc_int call_int1 T.z_int (by decide +kernel) (da_cons (d_add (d_pow d_int d_int) (d_callM (K := K) (hK := rfl) (j := 0) (ok__law_take T) hg (hr.mono (by decide)) T.g__law_take T.F__law_take.kp T.b__law_take (d_var 0) (da_cons (d_pow d_int d_int) da_nil))) da_nil)) (d_var 5))
    (ss_cons (s_ext (i := 5) (d_if (t_w (w_and (t_cmp op_notN rd_notN (d_var 4) d_non (nomark _)) (w_and1 (t_cmp op_gt rd_b (d_var 4) d_int (nomark _))))) (d_lst (da_cons (d_var 4) (da_cons (d_sub (d_var 4) d_int) da_nil))) (d_lst da_nil)) (d_var 5))
    (ss_one (s_for PassesOwn.never rfl (di_list (K := K) (hK := rfl) (d_var 5)) (dg_name (i := 6) sc__law_right.nd) (ss_cons (s_set (i := 7) sc__law_right.nd (d_callK (K := K) (hK := rfl) (ok_first_above T) hg (hr.mono (by decide)) T.g_first_above T.F_first_above.kp T.kb_0 (dk_cons (d_var 2) (dk_cons (d_var 6) (dk_cons (d_var 3) dk_nil)))))
    (ss_cons (s_if (t_cmp op_ne rd_ne (d_cb (K := K) (hK := rfl) rc_repr (cr_repr hg hr) T.z_repr (by decide +kernel) (da_cons (d_var 7) da_nil)) (d_cb (K := K) (hK := rfl) rc_repr (cr_repr hg hr) T.z_repr (by decide +kernel) (da_cons (d_call (K := K) (hK := rfl) (ok__law_first_above T) hg (hr.mono (by decide)) T.g__law_first_above T.F__law_first_above.kp T.b__law_first_above (da_cons (d_var 2) (da_cons (d_var 3) (da_cons (d_var 6) da_nil)))) da_nil)) (nomark _)) (ss_one (s_ret d_bl)) ss_nil)
    (ss_cons (s_if (t_cmp op_ne rd_ne (d_cmp op_isN rd_isN (d_var 7) d_non (nomark _)) (d_and (d_cmp op_notN rd_notN (d_var 4) d_non (nomark _)) (d_one (d_cmp op_le rd_b (d_var 4) (d_var 6) (nomark _)))) (nomark _)) (ss_one (s_ret d_bl)) ss_nil)
    (ss_one (s_if (t_w (w_and (t_cmp op_notN rd_notN (d_var 7) d_non (nomark _)) (w_and (t_cmp op_le rd_b (d_ix (K := K) (hK := rfl) (d_var 7) d_int) (d_pow d_int d_int) (nomark _)) (w_and1 (t_cmp op_le rd_b (d_call (K := K) (hK := rfl) (ok_delay_at T) hg (hr.mono (by decide)) T.g_delay_at T.F_delay_at.kp T.b_delay_at (da_cons (d_var 2) (da_cons (d_var 3) (da_cons (d_ix (K := K) (hK := rfl) (d_var 7) d_int) (da_cons (d_ix (K := K) (hK := rfl) (d_var 7) d_int) da_nil))))) (d_var 6) (nomark _)))))) (ss_one (s_ret d_bl)) ss_nil)))))))))))))
    (ss_one (s_ret d_bl)))⟩
theorem sc_law : FnScope N_law ["script"] (defScope s_law) := ⟨rfl, rfl, rfl, by decide +kernel, rfl, by decide +kernel, by decide +kernel⟩
theorem ok_law (T : Tx K mg) : GnOk P w K mg base CX0 8 T.f_law T.d_law ["script"] (spD K 1 S_law) := fnD (as := A_law) T.F_law sc_law rfl law_law fun cdv A outer s H E hg hr => ⟨_,
    (ss_one (s_ret (d_cb (K := K) (hK := rfl) rc_all (cr_all rfl) T.z_all (by decide +kernel) (da_cons (d_lc (own := [("place", 1)]) rfl sc_law.nd (di_list (K := K) (hK := rfl) (d_call (K := K) (hK := rfl) (ok__law_cells T) hg (hr.mono (by decide)) T.g__law_cells T.F__law_cells.kp T.b__law_cells (da_cons (d_var 0) (da_cons d_int da_nil)))) (blkOk_by (N := N_law) (sc := defScope s_law) (own := [("place", 1)]) (by decide +kernel)) (by decide) (fun _ _ _ _ _ => (dg_name (i := 1) sc_law.nd)) (fun _ _ _ _ _ => (d_callT (K := K) (hK := rfl) (ok__law_right T) hg (hr.mono (by decide)) T.g__law_right T.F__law_right.kp T.b__law_right (d_call (K := K) (hK := rfl) (ok__law_pot T) hg (hr.mono (by decide)) T.g__law_pot T.F__law_pot.kp T.b__law_pot (da_cons (d_var 0) (da_cons (d_var 1) da_nil))) da_nil))) da_nil))))⟩
end
theorem all_mk {l : PySem.W.OpenLaw} {w : World} {K : PySem.W.Frag} {h : Heap} {mg : Str → Option Value} {fa a_is_integer a_is_within a_are_counts a_check_arrivals a_check_slot a_run a_lap_waits a_spot_of a_count_of a_waits_ahead a_delay_at a_above_in a_least_start a_first_above a__law_pot a__law_take a__law_of a__law_cells a__law_arrivals a__law_count a__law_waits a__law_laps a__law_most a__law_first_above a__law_right a_law : Addr} (X : K.In h) (G : h.Ns mainGlobals mg) (hfa : mg "law" = some (.ref fa))
    {od0 an0 : Option Addr} {sl0 : Array (Option Value)} {oc0 kV0 dc0 pm0 cd0 ct0 : Value}
    {od1 an1 : Option Addr} {sl1 : Array (Option Value)} {oc1 kV1 dc1 pm1 cd1 ct1 : Value}
    {od2 an2 : Option Addr} {sl2 : Array (Option Value)} {oc2 kV2 dc2 pm2 cd2 ct2 : Value}
    {od3 an3 : Option Addr} {sl3 : Array (Option Value)} {oc3 kV3 dc3 pm3 cd3 ct3 : Value}
    {od4 an4 : Option Addr} {sl4 : Array (Option Value)} {oc4 kV4 dc4 pm4 cd4 ct4 : Value}
    {od5 an5 : Option Addr} {sl5 : Array (Option Value)} {oc5 kV5 dc5 pm5 cd5 ct5 : Value}
    {od6 an6 : Option Addr} {sl6 : Array (Option Value)} {oc6 kV6 dc6 pm6 cd6 ct6 : Value}
    {od7 an7 : Option Addr} {sl7 : Array (Option Value)} {oc7 kV7 dc7 pm7 cd7 ct7 : Value}
    {od8 an8 : Option Addr} {sl8 : Array (Option Value)} {oc8 kV8 dc8 pm8 cd8 ct8 : Value}
    {od9 an9 : Option Addr} {sl9 : Array (Option Value)} {oc9 kV9 dc9 pm9 cd9 ct9 : Value}
    {od10 an10 : Option Addr} {sl10 : Array (Option Value)} {oc10 kV10 dc10 pm10 cd10 ct10 : Value}
    {od11 an11 : Option Addr} {sl11 : Array (Option Value)} {oc11 kV11 dc11 pm11 cd11 ct11 : Value}
    {od12 an12 : Option Addr} {sl12 : Array (Option Value)} {oc12 kV12 dc12 pm12 cd12 ct12 : Value}
    {od13 an13 : Option Addr} {sl13 : Array (Option Value)} {oc13 kV13 dc13 pm13 cd13 ct13 : Value}
    {od14 an14 : Option Addr} {sl14 : Array (Option Value)} {oc14 kV14 dc14 pm14 cd14 ct14 : Value}
    {od15 an15 : Option Addr} {sl15 : Array (Option Value)} {oc15 kV15 dc15 pm15 cd15 ct15 : Value}
    {od16 an16 : Option Addr} {sl16 : Array (Option Value)} {oc16 kV16 dc16 pm16 cd16 ct16 : Value}
    {od17 an17 : Option Addr} {sl17 : Array (Option Value)} {oc17 kV17 dc17 pm17 cd17 ct17 : Value}
    {od18 an18 : Option Addr} {sl18 : Array (Option Value)} {oc18 kV18 dc18 pm18 cd18 ct18 : Value}
    {od19 an19 : Option Addr} {sl19 : Array (Option Value)} {oc19 kV19 dc19 pm19 cd19 ct19 : Value}
    {od20 an20 : Option Addr} {sl20 : Array (Option Value)} {oc20 kV20 dc20 pm20 cd20 ct20 : Value}
    {od21 an21 : Option Addr} {sl21 : Array (Option Value)} {oc21 kV21 dc21 pm21 cd21 ct21 : Value}
    {od22 an22 : Option Addr} {sl22 : Array (Option Value)} {oc22 kV22 dc22 pm22 cd22 ct22 : Value}
    {od23 an23 : Option Addr} {sl23 : Array (Option Value)} {oc23 kV23 dc23 pm23 cd23 ct23 : Value}
    {od24 an24 : Option Addr} {sl24 : Array (Option Value)} {oc24 kV24 dc24 pm24 cd24 ct24 : Value}
    {od25 an25 : Option Addr} {sl25 : Array (Option Value)} {oc25 kV25 dc25 pm25 cd25 ct25 : Value}
    {tk_FAR : Tok}
    {tk_MOST_COUNT : Tok}
    {tk_MOST_COUNTS : Tok}
    (a0 : PySem.W.nsIn K mainGlobals "is_integer" = some (some (.ref a_is_integer))) (l0 : K.lookup a_is_integer = some ⟨oc0, od0, .func (PySem.W.fnOf "is_integer" "is_integer" (defArgs s_is_integer) (defBody s_is_integer) (defScope s_is_integer) .none kV0 dc0 pm0 an0 cd0 ct0), sl0⟩) (c0 : PySem.W.codeIn K cd0 "is_integer" = true) (k0 : PySem.W.keepIn K (.ref a_is_integer) = true)
    (a1 : PySem.W.nsIn K mainGlobals "is_within" = some (some (.ref a_is_within))) (l1 : K.lookup a_is_within = some ⟨oc1, od1, .func (PySem.W.fnOf "is_within" "is_within" (defArgs s_is_within) (defBody s_is_within) (defScope s_is_within) .none kV1 dc1 pm1 an1 cd1 ct1), sl1⟩) (c1 : PySem.W.codeIn K cd1 "is_within" = true) (k1 : PySem.W.keepIn K (.ref a_is_within) = true)
    (a2 : PySem.W.nsIn K mainGlobals "are_counts" = some (some (.ref a_are_counts))) (l2 : K.lookup a_are_counts = some ⟨oc2, od2, .func (PySem.W.fnOf "are_counts" "are_counts" (defArgs s_are_counts) (defBody s_are_counts) (defScope s_are_counts) .none kV2 dc2 pm2 an2 cd2 ct2), sl2⟩) (c2 : PySem.W.codeIn K cd2 "are_counts" = true) (k2 : PySem.W.keepIn K (.ref a_are_counts) = true)
    (a3 : PySem.W.nsIn K mainGlobals "check_arrivals" = some (some (.ref a_check_arrivals))) (l3 : K.lookup a_check_arrivals = some ⟨oc3, od3, .func (PySem.W.fnOf "check_arrivals" "check_arrivals" (defArgs s_check_arrivals) (defBody s_check_arrivals) (defScope s_check_arrivals) .none kV3 dc3 pm3 an3 cd3 ct3), sl3⟩) (c3 : PySem.W.codeIn K cd3 "check_arrivals" = true) (k3 : PySem.W.keepIn K (.ref a_check_arrivals) = true)
    (a4 : PySem.W.nsIn K mainGlobals "check_slot" = some (some (.ref a_check_slot))) (l4 : K.lookup a_check_slot = some ⟨oc4, od4, .func (PySem.W.fnOf "check_slot" "check_slot" (defArgs s_check_slot) (defBody s_check_slot) (defScope s_check_slot) .none kV4 dc4 pm4 an4 cd4 ct4), sl4⟩) (c4 : PySem.W.codeIn K cd4 "check_slot" = true) (k4 : PySem.W.keepIn K (.ref a_check_slot) = true)
    (a5 : PySem.W.nsIn K mainGlobals "run" = some (some (.ref a_run))) (l5 : K.lookup a_run = some ⟨oc5, od5, .func (PySem.W.fnOf "run" "run" (defArgs s_run) (defBody s_run) (defScope s_run) .none kV5 dc5 pm5 an5 cd5 ct5), sl5⟩) (c5 : PySem.W.codeIn K cd5 "run" = true) (k5 : PySem.W.keepIn K (.ref a_run) = true)
    (a6 : PySem.W.nsIn K mainGlobals "lap_waits" = some (some (.ref a_lap_waits))) (l6 : K.lookup a_lap_waits = some ⟨oc6, od6, .func (PySem.W.fnOf "lap_waits" "lap_waits" (defArgs s_lap_waits) (defBody s_lap_waits) (defScope s_lap_waits) .none kV6 dc6 pm6 an6 cd6 ct6), sl6⟩) (c6 : PySem.W.codeIn K cd6 "lap_waits" = true) (k6 : PySem.W.keepIn K (.ref a_lap_waits) = true)
    (a7 : PySem.W.nsIn K mainGlobals "spot_of" = some (some (.ref a_spot_of))) (l7 : K.lookup a_spot_of = some ⟨oc7, od7, .func (PySem.W.fnOf "spot_of" "spot_of" (defArgs s_spot_of) (defBody s_spot_of) (defScope s_spot_of) .none kV7 dc7 pm7 an7 cd7 ct7), sl7⟩) (c7 : PySem.W.codeIn K cd7 "spot_of" = true) (k7 : PySem.W.keepIn K (.ref a_spot_of) = true)
    (a8 : PySem.W.nsIn K mainGlobals "count_of" = some (some (.ref a_count_of))) (l8 : K.lookup a_count_of = some ⟨oc8, od8, .func (PySem.W.fnOf "count_of" "count_of" (defArgs s_count_of) (defBody s_count_of) (defScope s_count_of) .none kV8 dc8 pm8 an8 cd8 ct8), sl8⟩) (c8 : PySem.W.codeIn K cd8 "count_of" = true) (k8 : PySem.W.keepIn K (.ref a_count_of) = true)
    (a9 : PySem.W.nsIn K mainGlobals "waits_ahead" = some (some (.ref a_waits_ahead))) (l9 : K.lookup a_waits_ahead = some ⟨oc9, od9, .func (PySem.W.fnOf "waits_ahead" "waits_ahead" (defArgs s_waits_ahead) (defBody s_waits_ahead) (defScope s_waits_ahead) .none kV9 dc9 pm9 an9 cd9 ct9), sl9⟩) (c9 : PySem.W.codeIn K cd9 "waits_ahead" = true) (k9 : PySem.W.keepIn K (.ref a_waits_ahead) = true)
    (a10 : PySem.W.nsIn K mainGlobals "delay_at" = some (some (.ref a_delay_at))) (l10 : K.lookup a_delay_at = some ⟨oc10, od10, .func (PySem.W.fnOf "delay_at" "delay_at" (defArgs s_delay_at) (defBody s_delay_at) (defScope s_delay_at) .none kV10 dc10 pm10 an10 cd10 ct10), sl10⟩) (c10 : PySem.W.codeIn K cd10 "delay_at" = true) (k10 : PySem.W.keepIn K (.ref a_delay_at) = true)
    (a11 : PySem.W.nsIn K mainGlobals "above_in" = some (some (.ref a_above_in))) (l11 : K.lookup a_above_in = some ⟨oc11, od11, .func (PySem.W.fnOf "above_in" "above_in" (defArgs s_above_in) (defBody s_above_in) (defScope s_above_in) .none kV11 dc11 pm11 an11 cd11 ct11), sl11⟩) (c11 : PySem.W.codeIn K cd11 "above_in" = true) (k11 : PySem.W.keepIn K (.ref a_above_in) = true)
    (a12 : PySem.W.nsIn K mainGlobals "least_start" = some (some (.ref a_least_start))) (l12 : K.lookup a_least_start = some ⟨oc12, od12, .func (PySem.W.fnOf "least_start" "least_start" (defArgs s_least_start) (defBody s_least_start) (defScope s_least_start) .none kV12 dc12 pm12 an12 cd12 ct12), sl12⟩) (c12 : PySem.W.codeIn K cd12 "least_start" = true) (k12 : PySem.W.keepIn K (.ref a_least_start) = true)
    (a13 : PySem.W.nsIn K mainGlobals "first_above" = some (some (.ref a_first_above))) (l13 : K.lookup a_first_above = some ⟨oc13, od13, .func (PySem.W.fnOf "first_above" "first_above" (defArgs s_first_above) (defBody s_first_above) (defScope s_first_above) .none kV13 dc13 pm13 an13 cd13 ct13), sl13⟩) (c13 : PySem.W.codeIn K cd13 "first_above" = true) (k13 : PySem.W.keepIn K (.ref a_first_above) = true)
    (a14 : PySem.W.nsIn K mainGlobals "_law_pot" = some (some (.ref a__law_pot))) (l14 : K.lookup a__law_pot = some ⟨oc14, od14, .func (PySem.W.fnOf "_law_pot" "_law_pot" (defArgs s__law_pot) (defBody s__law_pot) (defScope s__law_pot) .none kV14 dc14 pm14 an14 cd14 ct14), sl14⟩) (c14 : PySem.W.codeIn K cd14 "_law_pot" = true) (k14 : PySem.W.keepIn K (.ref a__law_pot) = true)
    (a15 : PySem.W.nsIn K mainGlobals "_law_take" = some (some (.ref a__law_take))) (l15 : K.lookup a__law_take = some ⟨oc15, od15, .func (PySem.W.fnOf "_law_take" "_law_take" (defArgs s__law_take) (defBody s__law_take) (defScope s__law_take) .none kV15 dc15 pm15 an15 cd15 ct15), sl15⟩) (c15 : PySem.W.codeIn K cd15 "_law_take" = true) (k15 : PySem.W.keepIn K (.ref a__law_take) = true)
    (a16 : PySem.W.nsIn K mainGlobals "_law_of" = some (some (.ref a__law_of))) (l16 : K.lookup a__law_of = some ⟨oc16, od16, .func (PySem.W.fnOf "_law_of" "_law_of" (defArgs s__law_of) (defBody s__law_of) (defScope s__law_of) .none kV16 dc16 pm16 an16 cd16 ct16), sl16⟩) (c16 : PySem.W.codeIn K cd16 "_law_of" = true) (k16 : PySem.W.keepIn K (.ref a__law_of) = true)
    (a17 : PySem.W.nsIn K mainGlobals "_law_cells" = some (some (.ref a__law_cells))) (l17 : K.lookup a__law_cells = some ⟨oc17, od17, .func (PySem.W.fnOf "_law_cells" "_law_cells" (defArgs s__law_cells) (defBody s__law_cells) (defScope s__law_cells) .none kV17 dc17 pm17 an17 cd17 ct17), sl17⟩) (c17 : PySem.W.codeIn K cd17 "_law_cells" = true) (k17 : PySem.W.keepIn K (.ref a__law_cells) = true)
    (a18 : PySem.W.nsIn K mainGlobals "_law_arrivals" = some (some (.ref a__law_arrivals))) (l18 : K.lookup a__law_arrivals = some ⟨oc18, od18, .func (PySem.W.fnOf "_law_arrivals" "_law_arrivals" (defArgs s__law_arrivals) (defBody s__law_arrivals) (defScope s__law_arrivals) .none kV18 dc18 pm18 an18 cd18 ct18), sl18⟩) (c18 : PySem.W.codeIn K cd18 "_law_arrivals" = true) (k18 : PySem.W.keepIn K (.ref a__law_arrivals) = true)
    (a19 : PySem.W.nsIn K mainGlobals "_law_count" = some (some (.ref a__law_count))) (l19 : K.lookup a__law_count = some ⟨oc19, od19, .func (PySem.W.fnOf "_law_count" "_law_count" (defArgs s__law_count) (defBody s__law_count) (defScope s__law_count) .none kV19 dc19 pm19 an19 cd19 ct19), sl19⟩) (c19 : PySem.W.codeIn K cd19 "_law_count" = true) (k19 : PySem.W.keepIn K (.ref a__law_count) = true)
    (a20 : PySem.W.nsIn K mainGlobals "_law_waits" = some (some (.ref a__law_waits))) (l20 : K.lookup a__law_waits = some ⟨oc20, od20, .func (PySem.W.fnOf "_law_waits" "_law_waits" (defArgs s__law_waits) (defBody s__law_waits) (defScope s__law_waits) .none kV20 dc20 pm20 an20 cd20 ct20), sl20⟩) (c20 : PySem.W.codeIn K cd20 "_law_waits" = true) (k20 : PySem.W.keepIn K (.ref a__law_waits) = true)
    (a21 : PySem.W.nsIn K mainGlobals "_law_laps" = some (some (.ref a__law_laps))) (l21 : K.lookup a__law_laps = some ⟨oc21, od21, .func (PySem.W.fnOf "_law_laps" "_law_laps" (defArgs s__law_laps) (defBody s__law_laps) (defScope s__law_laps) .none kV21 dc21 pm21 an21 cd21 ct21), sl21⟩) (c21 : PySem.W.codeIn K cd21 "_law_laps" = true) (k21 : PySem.W.keepIn K (.ref a__law_laps) = true)
    (a22 : PySem.W.nsIn K mainGlobals "_law_most" = some (some (.ref a__law_most))) (l22 : K.lookup a__law_most = some ⟨oc22, od22, .func (PySem.W.fnOf "_law_most" "_law_most" (defArgs s__law_most) (defBody s__law_most) (defScope s__law_most) .none kV22 dc22 pm22 an22 cd22 ct22), sl22⟩) (c22 : PySem.W.codeIn K cd22 "_law_most" = true) (k22 : PySem.W.keepIn K (.ref a__law_most) = true)
    (a23 : PySem.W.nsIn K mainGlobals "_law_first_above" = some (some (.ref a__law_first_above))) (l23 : K.lookup a__law_first_above = some ⟨oc23, od23, .func (PySem.W.fnOf "_law_first_above" "_law_first_above" (defArgs s__law_first_above) (defBody s__law_first_above) (defScope s__law_first_above) .none kV23 dc23 pm23 an23 cd23 ct23), sl23⟩) (c23 : PySem.W.codeIn K cd23 "_law_first_above" = true) (k23 : PySem.W.keepIn K (.ref a__law_first_above) = true)
    (a24 : PySem.W.nsIn K mainGlobals "_law_right" = some (some (.ref a__law_right))) (l24 : K.lookup a__law_right = some ⟨oc24, od24, .func (PySem.W.fnOf "_law_right" "_law_right" (defArgs s__law_right) (defBody s__law_right) (defScope s__law_right) .none kV24 dc24 pm24 an24 cd24 ct24), sl24⟩) (c24 : PySem.W.codeIn K cd24 "_law_right" = true) (k24 : PySem.W.keepIn K (.ref a__law_right) = true)
    (a25 : PySem.W.nsIn K mainGlobals "law" = some (some (.ref a_law))) (l25 : K.lookup a_law = some ⟨oc25, od25, .func (PySem.W.fnOf "law" "law" (defArgs s_law) (defBody s_law) (defScope s_law) .none kV25 dc25 pm25 an25 cd25 ct25), sl25⟩) (c25 : PySem.W.codeIn K cd25 "law" = true) (k25 : PySem.W.keepIn K (.ref a_law) = true)
    (z_abs : PySem.W.nsIn K mainGlobals "abs" = some none)
    (z_all : PySem.W.nsIn K mainGlobals "all" = some none)
    (z_bool : PySem.W.nsIn K mainGlobals "bool" = some none)
    (z_enumerate : PySem.W.nsIn K mainGlobals "enumerate" = some none)
    (z_int : PySem.W.nsIn K mainGlobals "int" = some none)
    (z_isinstance : PySem.W.nsIn K mainGlobals "isinstance" = some none)
    (z_len : PySem.W.nsIn K mainGlobals "len" = some none)
    (z_list : PySem.W.nsIn K mainGlobals "list" = some none)
    (z_max : PySem.W.nsIn K mainGlobals "max" = some none)
    (z_min : PySem.W.nsIn K mainGlobals "min" = some none)
    (z_range : PySem.W.nsIn K mainGlobals "range" = some none)
    (z_repr : PySem.W.nsIn K mainGlobals "repr" = some none)
    (z_sum : PySem.W.nsIn K mainGlobals "sum" = some none)
    (z_tuple : PySem.W.nsIn K mainGlobals "tuple" = some none)
    (c_FAR : PySem.W.nsIn K mainGlobals "FAR" = some (some (.int 1000000000000000000 tk_FAR)))
    (c_MOST_COUNT : PySem.W.nsIn K mainGlobals "MOST_COUNT" = some (some (.int 4 tk_MOST_COUNT)))
    (c_MOST_COUNTS : PySem.W.nsIn K mainGlobals "MOST_COUNTS" = some (some (.int 1000 tk_MOST_COUNTS))) :
    ∃ fd : FuncData, (∀ (s : Shared) (v : Value), BindsTo s fd ⟨[v], []⟩ [("script", v)]) ∧ ∀ base : Heap, K.In base → base.Ns mainGlobals mg → GnOk l.prog w K mg base CX0 8 fa fd ["script"] (spLaw K) := by
  have e := hfa.symm.trans (PySem.W.mg_of X G a25)
  cases e
  let T : Tx K mg := { f_is_integer := a_is_integer, d_is_integer := _, F_is_integer := fun_mk (st := s_is_integer) l0 c0 k0, b_is_integer := (fun_mk (st := s_is_integer) l0 c0 k0).binds (fun _ _ _ _ _ _ us hl => match us, hl with | [_], _ => rfl), g_is_integer := PySem.W.mg_of X G a0, f_is_within := a_is_within, d_is_within := _, F_is_within := fun_mk (st := s_is_within) l1 c1 k1, b_is_within := (fun_mk (st := s_is_within) l1 c1 k1).binds (fun _ _ _ _ _ _ us hl => match us, hl with | [_, _, _], _ => rfl), g_is_within := PySem.W.mg_of X G a1, f_are_counts := a_are_counts, d_are_counts := _, F_are_counts := fun_mk (st := s_are_counts) l2 c2 k2, b_are_counts := (fun_mk (st := s_are_counts) l2 c2 k2).binds (fun _ _ _ _ _ _ us hl => match us, hl with | [_, _], _ => rfl), g_are_counts := PySem.W.mg_of X G a2, f_check_arrivals := a_check_arrivals, d_check_arrivals := _, F_check_arrivals := fun_mk (st := s_check_arrivals) l3 c3 k3, b_check_arrivals := (fun_mk (st := s_check_arrivals) l3 c3 k3).binds (fun _ _ _ _ _ _ us hl => match us, hl with | [_, _], _ => rfl), g_check_arrivals := PySem.W.mg_of X G a3, f_check_slot := a_check_slot, d_check_slot := _, F_check_slot := fun_mk (st := s_check_slot) l4 c4 k4, b_check_slot := (fun_mk (st := s_check_slot) l4 c4 k4).binds (fun _ _ _ _ _ _ us hl => match us, hl with | [_, _, _], _ => rfl), g_check_slot := PySem.W.mg_of X G a4, f_run := a_run, d_run := _, F_run := fun_mk (st := s_run) l5 c5 k5, b_run := (fun_mk (st := s_run) l5 c5 k5).binds (fun _ _ _ _ _ _ us hl => match us, hl with | [_, _], _ => rfl), g_run := PySem.W.mg_of X G a5, f_lap_waits := a_lap_waits, d_lap_waits := _, F_lap_waits := fun_mk (st := s_lap_waits) l6 c6 k6, b_lap_waits := (fun_mk (st := s_lap_waits) l6 c6 k6).binds (fun _ _ _ _ _ _ us hl => match us, hl with | [_, _, _], _ => rfl), g_lap_waits := PySem.W.mg_of X G a6, f_spot_of := a_spot_of, d_spot_of := _, F_spot_of := fun_mk (st := s_spot_of) l7 c7 k7, b_spot_of := (fun_mk (st := s_spot_of) l7 c7 k7).binds (fun _ _ _ _ _ _ us hl => match us, hl with | [_, _, _], _ => rfl), g_spot_of := PySem.W.mg_of X G a7, f_count_of := a_count_of, d_count_of := _, F_count_of := fun_mk (st := s_count_of) l8 c8 k8, b_count_of := (fun_mk (st := s_count_of) l8 c8 k8).binds (fun _ _ _ _ _ _ us hl => match us, hl with | [_, _, _], _ => rfl), g_count_of := PySem.W.mg_of X G a8, f_waits_ahead := a_waits_ahead, d_waits_ahead := _, F_waits_ahead := fun_mk (st := s_waits_ahead) l9 c9 k9, b_waits_ahead := (fun_mk (st := s_waits_ahead) l9 c9 k9).binds (fun _ _ _ _ _ _ us hl => match us, hl with | [_, _, _], _ => rfl), g_waits_ahead := PySem.W.mg_of X G a9, f_delay_at := a_delay_at, d_delay_at := _, F_delay_at := fun_mk (st := s_delay_at) l10 c10 k10, b_delay_at := (fun_mk (st := s_delay_at) l10 c10 k10).binds (fun _ _ _ _ _ _ us hl => match us, hl with | [_, _, _, _], _ => rfl), g_delay_at := PySem.W.mg_of X G a10, f_above_in := a_above_in, d_above_in := _, F_above_in := fun_mk (st := s_above_in) l11 c11 k11, b_above_in := (fun_mk (st := s_above_in) l11 c11 k11).binds (fun _ _ _ _ _ _ us hl => match us, hl with | [_, _, _], _ => rfl), g_above_in := PySem.W.mg_of X G a11, f_least_start := a_least_start, d_least_start := _, F_least_start := fun_mk (st := s_least_start) l12 c12 k12, b_least_start := (fun_mk (st := s_least_start) l12 c12 k12).binds (fun _ _ _ _ _ _ us hl => match us, hl with | [_, _], _ => rfl), g_least_start := PySem.W.mg_of X G a12, f_first_above := a_first_above, d_first_above := _, F_first_above := fun_mk (st := s_first_above) l13 c13 k13, b_first_above := (fun_mk (st := s_first_above) l13 c13 k13).binds (fun _ _ _ _ _ _ us hl => match us, hl with | [_, _, _], _ => rfl), g_first_above := PySem.W.mg_of X G a13, f__law_pot := a__law_pot, d__law_pot := _, F__law_pot := fun_mk (st := s__law_pot) l14 c14 k14, b__law_pot := (fun_mk (st := s__law_pot) l14 c14 k14).binds (fun _ _ _ _ _ _ us hl => match us, hl with | [_, _], _ => rfl), g__law_pot := PySem.W.mg_of X G a14, f__law_take := a__law_take, d__law_take := _, F__law_take := fun_mk (st := s__law_take) l15 c15 k15, b__law_take := (fun_mk (st := s__law_take) l15 c15 k15).binds (fun _ _ _ _ _ _ us hl => match us, hl with | [_, _], _ => rfl), g__law_take := PySem.W.mg_of X G a15, f__law_of := a__law_of, d__law_of := _, F__law_of := fun_mk (st := s__law_of) l16 c16 k16, b__law_of := (fun_mk (st := s__law_of) l16 c16 k16).binds (fun _ _ _ _ _ _ us hl => match us, hl with | [_, _], _ => rfl), g__law_of := PySem.W.mg_of X G a16, f__law_cells := a__law_cells, d__law_cells := _, F__law_cells := fun_mk (st := s__law_cells) l17 c17 k17, b__law_cells := (fun_mk (st := s__law_cells) l17 c17 k17).binds (fun _ _ _ _ _ _ us hl => match us, hl with | [_, _], _ => rfl), g__law_cells := PySem.W.mg_of X G a17, f__law_arrivals := a__law_arrivals, d__law_arrivals := _, F__law_arrivals := fun_mk (st := s__law_arrivals) l18 c18 k18, b__law_arrivals := (fun_mk (st := s__law_arrivals) l18 c18 k18).binds (fun _ _ _ _ _ _ us hl => match us, hl with | [_], _ => rfl), g__law_arrivals := PySem.W.mg_of X G a18, f__law_count := a__law_count, d__law_count := _, F__law_count := fun_mk (st := s__law_count) l19 c19 k19, b__law_count := (fun_mk (st := s__law_count) l19 c19 k19).binds (fun _ _ _ _ _ _ us hl => match us, hl with | [_, _, _], _ => rfl), g__law_count := PySem.W.mg_of X G a19, f__law_waits := a__law_waits, d__law_waits := _, F__law_waits := fun_mk (st := s__law_waits) l20 c20 k20, b__law_waits := (fun_mk (st := s__law_waits) l20 c20 k20).binds (fun _ _ _ _ _ _ us hl => match us, hl with | [_, _, _], _ => rfl), g__law_waits := PySem.W.mg_of X G a20, f__law_laps := a__law_laps, d__law_laps := _, F__law_laps := fun_mk (st := s__law_laps) l21 c21 k21, b__law_laps := (fun_mk (st := s__law_laps) l21 c21 k21).binds (fun _ _ _ _ _ _ us hl => match us, hl with | [_, _], _ => rfl), g__law_laps := PySem.W.mg_of X G a21, f__law_most := a__law_most, d__law_most := _, F__law_most := fun_mk (st := s__law_most) l22 c22 k22, b__law_most := (fun_mk (st := s__law_most) l22 c22 k22).binds (fun _ _ _ _ _ _ us hl => match us, hl with | [_, _], _ => rfl), g__law_most := PySem.W.mg_of X G a22, f__law_first_above := a__law_first_above, d__law_first_above := _, F__law_first_above := fun_mk (st := s__law_first_above) l23 c23 k23, b__law_first_above := (fun_mk (st := s__law_first_above) l23 c23 k23).binds (fun _ _ _ _ _ _ us hl => match us, hl with | [_, _, _], _ => rfl), g__law_first_above := PySem.W.mg_of X G a23, f__law_right := a__law_right, d__law_right := _, F__law_right := fun_mk (st := s__law_right) l24 c24 k24, b__law_right := (fun_mk (st := s__law_right) l24 c24 k24).binds (fun _ _ _ _ _ _ us hl => match us, hl with | [_], _ => rfl), g__law_right := PySem.W.mg_of X G a24, f_law := fa, d_law := _, F_law := fun_mk (st := s_law) l25 c25 k25, b_law := (fun_mk (st := s_law) l25 c25 k25).binds (fun _ _ _ _ _ _ us hl => match us, hl with | [_], _ => rfl), g_law := PySem.W.mg_of X G a25, kb_0 := kbinds_fun (fun_mk (st := s_first_above) l13 c13 k13) (by decide) (fun _ _ _ _ _ _ us hl => match us, hl with | [_, _, _], _ => rfl), z_abs := PySem.W.mg_none_of X G z_abs, z_all := PySem.W.mg_none_of X G z_all, z_bool := PySem.W.mg_none_of X G z_bool, z_enumerate := PySem.W.mg_none_of X G z_enumerate, z_int := PySem.W.mg_none_of X G z_int, z_isinstance := PySem.W.mg_none_of X G z_isinstance, z_len := PySem.W.mg_none_of X G z_len, z_list := PySem.W.mg_none_of X G z_list, z_max := PySem.W.mg_none_of X G z_max, z_min := PySem.W.mg_none_of X G z_min, z_range := PySem.W.mg_none_of X G z_range, z_repr := PySem.W.mg_none_of X G z_repr, z_sum := PySem.W.mg_none_of X G z_sum, z_tuple := PySem.W.mg_none_of X G z_tuple, c_FAR := ⟨_, PySem.W.mg_of X G c_FAR⟩, c_MOST_COUNT := ⟨_, PySem.W.mg_of X G c_MOST_COUNT⟩, c_MOST_COUNTS := ⟨_, PySem.W.mg_of X G c_MOST_COUNTS⟩ }
  refine ⟨T.d_law, fun s v => .of_eq rfl, fun base _ _ => (ok_law T).imp spLaw_D⟩

end K43
open PySem PySem.W PyProof.Rows
set_option maxRecDepth 100000 in
set_option maxHeartbeats 0 in
theorem PySem.Challenge.cw_queueloops_k43_the_first_delay_above_a_s_holds : PySem.Challenge.rw_queueloops_k43_the_first_delay_above_a_s.Holds := by
  w_on; o_law; k_head; (case hw => w_witness2)
  k_fill
  refine DL.walk_g (l := PySem.Challenge.rw_queueloops_k43_the_first_delay_above_a_s) (n := 63) (k := 8) (x := "script") (CX := fun _ => L2.CX0) (sp := fun w => DL.spLaw _) rfl (by decide) rfl ⟨rfl, by decide, by decide⟩ (fun w h Y => PySem.W.kIn_of Y) ?F (fun _ _ a ns hl hS => ⟨a, ns, rfl, hS, hl, fun _ => rfl⟩) (fun _ _ _ _ _ h => h)
  case F =>
    intro w mg fa h KX G hmg
    refine' K43.all_mk KX G hmg ?a0 ?l0 ?c0 ?k0 ?a1 ?l1 ?c1 ?k1 ?a2 ?l2 ?c2 ?k2 ?a3 ?l3 ?c3 ?k3 ?a4 ?l4 ?c4 ?k4 ?a5 ?l5 ?c5 ?k5 ?a6 ?l6 ?c6 ?k6 ?a7 ?l7 ?c7 ?k7 ?a8 ?l8 ?c8 ?k8 ?a9 ?l9 ?c9 ?k9 ?a10 ?l10 ?c10 ?k10 ?a11 ?l11 ?c11 ?k11 ?a12 ?l12 ?c12 ?k12 ?a13 ?l13 ?c13 ?k13 ?a14 ?l14 ?c14 ?k14 ?a15 ?l15 ?c15 ?k15 ?a16 ?l16 ?c16 ?k16 ?a17 ?l17 ?c17 ?k17 ?a18 ?l18 ?c18 ?k18 ?a19 ?l19 ?c19 ?k19 ?a20 ?l20 ?c20 ?k20 ?a21 ?l21 ?c21 ?k21 ?a22 ?l22 ?c22 ?k22 ?a23 ?l23 ?c23 ?k23 ?a24 ?l24 ?c24 ?k24 ?a25 ?l25 ?c25 ?k25 ?z_abs ?z_all ?z_bool ?z_enumerate ?z_int ?z_isinstance ?z_len ?z_list ?z_max ?z_min ?z_range ?z_repr ?z_sum ?z_tuple ?c_FAR ?c_MOST_COUNT ?c_MOST_COUNTS
    (case a0 => k_is)
    (case l0 => k_is)
    (case c0 => k_is)
    (case k0 => k_is)
    (case a1 => k_is)
    (case l1 => k_is)
    (case c1 => k_is)
    (case k1 => k_is)
    (case a2 => k_is)
    (case l2 => k_is)
    (case c2 => k_is)
    (case k2 => k_is)
    (case a3 => k_is)
    (case l3 => k_is)
    (case c3 => k_is)
    (case k3 => k_is)
    (case a4 => k_is)
    (case l4 => k_is)
    (case c4 => k_is)
    (case k4 => k_is)
    (case a5 => k_is)
    (case l5 => k_is)
    (case c5 => k_is)
    (case k5 => k_is)
    (case a6 => k_is)
    (case l6 => k_is)
    (case c6 => k_is)
    (case k6 => k_is)
    (case a7 => k_is)
    (case l7 => k_is)
    (case c7 => k_is)
    (case k7 => k_is)
    (case a8 => k_is)
    (case l8 => k_is)
    (case c8 => k_is)
    (case k8 => k_is)
    (case a9 => k_is)
    (case l9 => k_is)
    (case c9 => k_is)
    (case k9 => k_is)
    (case a10 => k_is)
    (case l10 => k_is)
    (case c10 => k_is)
    (case k10 => k_is)
    (case a11 => k_is)
    (case l11 => k_is)
    (case c11 => k_is)
    (case k11 => k_is)
    (case a12 => k_is)
    (case l12 => k_is)
    (case c12 => k_is)
    (case k12 => k_is)
    (case a13 => k_is)
    (case l13 => k_is)
    (case c13 => k_is)
    (case k13 => k_is)
    (case a14 => k_is)
    (case l14 => k_is)
    (case c14 => k_is)
    (case k14 => k_is)
    (case a15 => k_is)
    (case l15 => k_is)
    (case c15 => k_is)
    (case k15 => k_is)
    (case a16 => k_is)
    (case l16 => k_is)
    (case c16 => k_is)
    (case k16 => k_is)
    (case a17 => k_is)
    (case l17 => k_is)
    (case c17 => k_is)
    (case k17 => k_is)
    (case a18 => k_is)
    (case l18 => k_is)
    (case c18 => k_is)
    (case k18 => k_is)
    (case a19 => k_is)
    (case l19 => k_is)
    (case c19 => k_is)
    (case k19 => k_is)
    (case a20 => k_is)
    (case l20 => k_is)
    (case c20 => k_is)
    (case k20 => k_is)
    (case a21 => k_is)
    (case l21 => k_is)
    (case c21 => k_is)
    (case k21 => k_is)
    (case a22 => k_is)
    (case l22 => k_is)
    (case c22 => k_is)
    (case k22 => k_is)
    (case a23 => k_is)
    (case l23 => k_is)
    (case c23 => k_is)
    (case k23 => k_is)
    (case a24 => k_is)
    (case l24 => k_is)
    (case c24 => k_is)
    (case k24 => k_is)
    (case a25 => k_is)
    (case l25 => k_is)
    (case c25 => k_is)
    (case k25 => k_is)
    (case z_abs => k_is)
    (case z_all => k_is)
    (case z_bool => k_is)
    (case z_enumerate => k_is)
    (case z_int => k_is)
    (case z_isinstance => k_is)
    (case z_len => k_is)
    (case z_list => k_is)
    (case z_max => k_is)
    (case z_min => k_is)
    (case z_range => k_is)
    (case z_repr => k_is)
    (case z_sum => k_is)
    (case z_tuple => k_is)
    (case c_FAR => k_is)
    (case c_MOST_COUNT => k_is)
    (case c_MOST_COUNTS => k_is)

#print axioms PySem.Challenge.cw_queueloops_k43_the_first_delay_above_a_s_holds
