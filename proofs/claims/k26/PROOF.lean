import PyProof.Rows.All
import Wide.All
import OpenK.AllK
import Wide.FinOn
import HandS.ForMost
import HandS.IsInst
import HandS.Wide
import HandS.Walk
import HandS.TupAny
import KE.KTupSum
import HandS.Conv
import PySem.Challenge.RW_queueloops_k26_clashes_by_figures
set_option Elab.async false
set_option linter.all false
set_option maxRecDepth 100000
set_option maxHeartbeats 8000000
/-! A layer over the hand layer: what a def does, said over plain data. -/
namespace DL
open PySem L2

/-! ### data -/
inductive D where
  | non | bl (b : Bool) | int (i : Int) | str (x : Str) | tup (xs : List D) | lst (xs : List D) | scr (xs : List D) | ob (f : Hp → V → Prop)

mutual
def Dq (K : PySem.W.Frag) (H : Hp) : D → V → Prop
  | .non, v => v = .non
  | .bl b, v => v = .bl b
  | .int i, v => v = .int i
  | .str x, v => v = .str x
  | .tup ds, v => ∃ a xs, v = .ref a ∧ SqT K H a xs ∧ DqA K H ds xs
  | .lst ds, v => ∃ a xs, v = .ref a ∧ H a = some (.lst xs) ∧ DqA K H ds xs
  | .scr ds, v => ∃ a xs, v = .ref a ∧ SqL K H a xs ∧ DqA K H ds xs
  | .ob f, v => ∀ H', Same H H' → f H' v
def DqA (K : PySem.W.Frag) (H : Hp) : List D → List V → Prop
  | [], xs => xs = []
  | d :: ds, xs => ∃ x r, xs = x :: r ∧ Dq K H d x ∧ DqA K H ds r
end
section
variable {K : PySem.W.Frag} {H H' : Hp}
theorem Same.rd {a : Addr} {u : HO} (e : Same H H') (h : Rd H a u) : Rd H' a u := by
  rcases h with h | ⟨o, h⟩
  · exact .inl (e _ _ h)
  · exact .inr ⟨o, e _ _ h⟩
theorem Same.sqt {a : Addr} {xs : List V} (e : Same H H') (h : SqT K H a xs) : SqT K H' a xs := by
  rcases h with h | h
  · exact .inl (Same.rd e h)
  · exact .inr h
mutual
theorem Dq.mono (e : Same H H') : ∀ (d : D) (v : V), Dq K H d v → Dq K H' d v
  | .non, v, h => h
  | .bl b, v, h => h
  | .int i, v, h => h
  | .str x, v, h => h
  | .tup ds, v, h => by
    obtain ⟨a, xs, h1, h2, h3⟩ := h
    exact ⟨a, xs, h1, Same.sqt e h2, DqA.mono e ds xs h3⟩
  | .lst ds, v, h => by
    obtain ⟨a, xs, h1, h2, h3⟩ := h
    exact ⟨a, xs, h1, e _ _ h2, DqA.mono e ds xs h3⟩
  | .scr ds, v, h => by
    obtain ⟨a, xs, h1, h2, h3⟩ := h
    exact ⟨a, xs, h1, e.seq h2, DqA.mono e ds xs h3⟩
  | .ob f, v, h => fun H2 e2 => h H2 (e.trans e2)
theorem DqA.mono (e : Same H H') : ∀ (ds : List D) (xs : List V), DqA K H ds xs → DqA K H' ds xs
  | [], xs, h => h
  | d :: ds, xs, h => by
    obtain ⟨x, r, h1, h2, h3⟩ := h
    exact ⟨x, r, h1, Dq.mono e d x h2, DqA.mono e ds r h3⟩
end
theorem DqA.length : ∀ {ds : List D} {xs : List V}, DqA K H ds xs → xs.length = ds.length
  | [], xs, h => by
    have e : xs = [] := h
    rw [e]
    rfl
  | d :: ds, xs, h => by
    obtain ⟨x, r, h1, h2, h3⟩ := h
    rw [h1, List.length_cons, List.length_cons, DqA.length h3]
theorem DqA.get : ∀ {ds : List D} {xs : List V} {i : Nat} {d : D}, DqA K H ds xs → ds[i]? = some d → ∃ x, xs[i]? = some x ∧ Dq K H d x
  | [], xs, i, d, h, e => by simp at e
  | d0 :: ds, xs, 0, d, h, e => by
    obtain ⟨x, r, h1, h2, h3⟩ := h
    simp at e
    subst e
    exact ⟨x, by rw [h1]; rfl, h2⟩
  | d0 :: ds, xs, i + 1, d, h, e => by
    obtain ⟨x, r, h1, h2, h3⟩ := h
    obtain ⟨y, e1, e2⟩ := DqA.get (i := i) h3 (by simpa using e)
    exact ⟨y, by rw [h1]; simpa using e1, e2⟩
theorem DqA.getV : ∀ {ds : List D} {xs : List V} {i : Nat} {x : V}, DqA K H ds xs → xs[i]? = some x → ∃ d, ds[i]? = some d ∧ Dq K H d x
  | [], xs, i, d, h, e => by
    have e2 : xs = [] := h
    rw [e2] at e
    simp at e
  | d0 :: ds, xs, 0, d, h, e => by
    obtain ⟨x, r, h1, h2, h3⟩ := h
    rw [h1] at e
    simp at e
    subst e
    exact ⟨d0, rfl, h2⟩
  | d0 :: ds, xs, i + 1, d, h, e => by
    obtain ⟨x, r, h1, h2, h3⟩ := h
    rw [h1] at e
    obtain ⟨y, e1, e2⟩ := DqA.getV (i := i) h3 (by simpa using e)
    exact ⟨y, by simpa using e1, e2⟩
theorem DqA.append : ∀ {ds es : List D} {xs ys : List V}, DqA K H ds xs → DqA K H es ys → DqA K H (ds ++ es) (xs ++ ys)
  | [], es, xs, ys, h, q => by
    have e2 : xs = [] := h
    rw [e2]
    exact q
  | d :: ds, es, xs, ys, h, q => by
    obtain ⟨x, r, h1, h2, h3⟩ := h
    subst h1
    exact ⟨x, r ++ ys, rfl, h2, DqA.append h3 q⟩
theorem DqA.set : ∀ {ds : List D} {xs : List V} {i : Nat} {d : D} {x : V}, DqA K H ds xs → Dq K H d x → DqA K H (ds.set i d) (xs.set i x)
  | [], xs, i, d, x, h, q => by
    have e2 : xs = [] := h
    rw [e2]
    rfl
  | d0 :: ds, xs, 0, d, x, h, q => by
    obtain ⟨y, r, h1, h2, h3⟩ := h
    subst h1
    exact ⟨x, r, rfl, q, h3⟩
  | d0 :: ds, xs, i + 1, d, x, h, q => by
    obtain ⟨y, r, h1, h2, h3⟩ := h
    subst h1
    exact ⟨y, r.set i x, rfl, h2, DqA.set h3 q⟩
theorem DqA.drop : ∀ {ds : List D} {xs : List V} (n : Nat), DqA K H ds xs → DqA K H (ds.drop n) (xs.drop n)
  | ds, xs, 0, h => h
  | [], xs, n + 1, h => by
    have e2 : xs = [] := h
    rw [e2]
    rfl
  | d :: ds, xs, n + 1, h => by
    obtain ⟨x, r, h1, h2, h3⟩ := h
    subst h1
    exact DqA.drop n h3
theorem DqA.take : ∀ {ds : List D} {xs : List V} (n : Nat), DqA K H ds xs → DqA K H (ds.take n) (xs.take n)
  | ds, xs, 0, h => by
    rw [List.take_zero, List.take_zero]
    rfl
  | [], xs, n + 1, h => by
    have e2 : xs = [] := h
    rw [e2]
    rfl
  | d :: ds, xs, n + 1, h => by
    obtain ⟨x, r, h1, h2, h3⟩ := h
    subst h1
    exact ⟨x, r.take n, rfl, h2, DqA.take n h3⟩
theorem dqa_nil : DqA K H [] [] := rfl
theorem dqa_ints : ∀ (ns : List Int), DqA K H (ns.map D.int) (ns.map V.int)
  | [] => rfl
  | n :: ns => ⟨.int n, ns.map V.int, rfl, rfl, dqa_ints ns⟩
theorem of_dqa_ints : ∀ (ns : List Int) (xs : List V), DqA K H (ns.map D.int) xs → xs = ns.map V.int
  | [], xs, h => h
  | n :: ns, xs, h => by
    obtain ⟨x, r, h1, h2, h3⟩ := h
    have e : x = .int n := h2
    rw [h1, e, of_dqa_ints ns r h3]
    rfl
theorem of_dqa_bls : ∀ (ns : List Bool) (xs : List V), DqA K H (ns.map D.bl) xs → xs = ns.map V.bl
  | [], xs, h => h
  | n :: ns, xs, h => by
    obtain ⟨x, r, h1, h2, h3⟩ := h
    have e : x = .bl n := h2
    rw [h1, e, of_dqa_bls ns r h3]
    rfl
end

/-! ### slots -/
inductive Sl where
  | no
  | pu (d : D)
  | ow (p : Addr) (xs : List D)
abbrev Ss := List Sl
def Sl.d : Sl → D
  | .no => .ob fun _ _ => True
  | .pu d => d
  | .ow _ xs => .lst xs
def SlOk (K : PySem.W.Frag) (F H : Hp) : Sl → Option V → Prop
  | .no, _ => True
  | .pu d, o => ∃ v, o = some v ∧ Dq K F d v
  | .ow p xs, o => o = some (.ref p) ∧ F p = none ∧ ∃ vs, H p = some (.lst vs) ∧ DqA K F xs vs
def Own (s : Ss) (p : Addr) : Prop := ∃ (i : Nat) (xs : List D), s[i]? = some (.ow p xs)
structure StOk (K : PySem.W.Frag) (F H : Hp) (σ : L2.St) (s : Ss) : Prop where
  le : Same F H
  len : σ.length = s.length
  ok : ∀ (i : Nat) (l : Sl) (o : Option V), s[i]? = some l → σ[i]? = some o → SlOk K F H l o
  un : ∀ (i j : Nat) (p : Addr) (xs ys : List D), s[i]? = some (.ow p xs) → s[j]? = some (.ow p ys) → i = j
/-- from the state s with F, H to s' with F', H' -/
structure Step (K : PySem.W.Frag) (s : Ss) (F H : Hp) (s' : Ss) (F' H' : Hp) (σ' : L2.St) : Prop where
  st : StOk K F' H' σ' s'
  f : Same F F'
  k : ∀ a o, H a = some o → ¬ Own s a → H' a = some o
  t : ∀ a, H' a = none → H a = none
  n : ∀ a, F' a ≠ none → F a ≠ none ∨ H a = none ∨ Own s a
  o : ∀ p, Own s' p → Own s p ∨ H p = none
/-- a result -/
structure Rs (K : PySem.W.Frag) (s : Ss) (H F' H' : Hp) (s' : Ss) (r : Sl) (v : V) : Prop where
  ok : SlOk K F' H' r (some v)
  fr : ∀ p xs, r = .ow p xs → (H p = none ∨ Own s p) ∧ ¬ Own s' p
/-- new objects alone -/
structure Lf (K : PySem.W.Frag) (F H : Hp) (r : Sl) (v : V) (F' H' : Hp) : Prop where
  f : Same F F'
  h : Same H H'
  le : Same F' H'
  n : ∀ a, F' a ≠ none → F a ≠ none ∨ H a = none
  ok : SlOk K F' H' r (some v)
  fr : ∀ p xs, r = .ow p xs → H p = none
section
variable {K : PySem.W.Frag} {F H F' H' F1 H1 F2 H2 : Hp} {s s' s1 s2 : Ss} {σ σ' σ1 σ2 : L2.St} {r : Sl} {v : V}
theorem SlOk.mono (e : Same F F') (h : ∀ p xs, r = .ow p xs → ∀ vs, F p = none → H p = some (.lst vs) → F' p = none ∧ H' p = some (.lst vs)) {o : Option V} (q : SlOk K F H r o) : SlOk K F' H' r o := by
  cases r with
  | no => trivial
  | pu d =>
    obtain ⟨v, h1, h2⟩ := q
    exact ⟨v, h1, Dq.mono e _ _ h2⟩
  | ow p xs =>
    obtain ⟨h1, h2, vs, h3, h4⟩ := q
    obtain ⟨g1, g2⟩ := h p xs rfl vs h2 h3
    exact ⟨h1, g1, vs, g2, DqA.mono e _ _ h4⟩
theorem StOk.get (ok : StOk K F H σ s) {i : Nat} {l : Sl} (h : s[i]? = some l) : ∃ o, σ[i]? = some o ∧ SlOk K F H l o := by
  have hi : i < s.length := (List.getElem?_eq_some_iff.mp h).1
  have hi2 : i < σ.length := by
    rw [ok.len]
    exact hi
  have e : σ[i]? = some σ[i] := List.getElem?_eq_getElem hi2
  exact ⟨_, e, ok.ok i l _ h e⟩
theorem StOk.own (ok : StOk K F H σ s) {p : Addr} (h : Own s p) : F p = none ∧ ∃ vs, H p = some (.lst vs) := by
  obtain ⟨i, xs, e⟩ := h
  obtain ⟨o, _, h1, h2, vs, h3, _⟩ := ok.get e
  exact ⟨h2, vs, h3⟩
theorem Step.refl (ok : StOk K F H σ s) : Step K s F H s F H σ where
  st := ok
  f := Same.refl F
  k := fun _ _ h _ => h
  t := fun _ h => h
  n := fun _ h => .inl h
  o := fun _ h => .inl h
theorem Step.trans (a : Step K s F H s1 F1 H1 σ1) (b : Step K s1 F1 H1 s2 F2 H2 σ2) : Step K s F H s2 F2 H2 σ2 where
  st := b.st
  f := a.f.trans b.f
  k := fun x o h hn => b.k x o (a.k x o h hn) fun q => by
    rcases a.o x q with z | z
    · exact hn z
    · rw [h] at z
      cases z
  t := fun x h => a.t x (b.t x h)
  n := fun x h => by
    rcases b.n x h with z | z | z
    · exact a.n x z
    · exact .inr (.inl (a.t x z))
    · rcases a.o x z with y | y
      · exact .inr (.inr y)
      · exact .inr (.inl y)
  o := fun x h => by
    rcases b.o x h with z | z
    · exact a.o x z
    · exact .inr (a.t x z)
/-- a result stays through a further step -/
theorem Rs.keep (r1 : Rs K s H F1 H1 s1 r v) (b : Step K s1 F1 H1 s2 F2 H2 σ2) : Rs K s H F2 H2 s2 r v where
  ok := r1.ok.mono b.f fun p xs e vs h1 h2 => by
    have hn := (r1.fr p xs e).2
    refine ⟨?_, b.k p _ h2 hn⟩
    cases q : F2 p with
    | none => rfl
    | some o =>
      rcases b.n p (by rw [q]; intro z; cases z) with z | z | z
      · exact absurd h1 z
      · rw [h2] at z
        cases z
      · exact absurd z hn
  fr := fun p xs e => by
    refine ⟨(r1.fr p xs e).1, fun q => ?_⟩
    rcases b.o p q with z | z
    · exact (r1.fr p xs e).2 z
    · have h := r1.ok
      rw [e] at h
      obtain ⟨_, _, vs, h3, _⟩ := h
      rw [h3] at z
      cases z
/-- a new list is from now on a value -/
theorem Step.freeze (a : Step K s F H s1 F1 H1 σ1) (r1 : Rs K s H F1 H1 s1 r v) : ∃ F2, Step K s F H s1 F2 H1 σ1 ∧ Same F1 F2 ∧ Dq K F2 r.d v := by
  cases r with
  | no => exact ⟨F1, a, Same.refl _, fun _ _ => trivial⟩
  | pu d =>
    obtain ⟨w, h1, h2⟩ := r1.ok
    cases h1
    exact ⟨F1, a, Same.refl _, h2⟩
  | ow p xs =>
    obtain ⟨h1, h2, vs, h3, h4⟩ := r1.ok
    obtain ⟨g1, g2⟩ := r1.fr p xs rfl
    have e1 : Same F1 (upd F1 p (.lst vs)) := fun b o q => by
      rw [upd_ne (ne_of_none q h2)]
      exact q
    have e2 : Same (upd F1 p (.lst vs)) H1 := fun b o q => by
      by_cases hb : b = p
      · subst hb
        rw [upd_same] at q
        cases q
        exact h3
      · rw [upd_ne hb] at q
        exact a.st.le b o q
    refine ⟨upd F1 p (.lst vs), ⟨⟨e2, a.st.len, fun i l o q1 q2 => ?_, a.st.un⟩, a.f.trans e1, a.k, a.t, fun b hb => ?_, a.o⟩, e1, ?_⟩
    · refine (a.st.ok i l o q1 q2).mono e1 fun q ys e us z1 z2 => ⟨?_, z2⟩
      have hq : q ≠ p := fun z => g2 ⟨i, ys, by rw [q1, e, z]⟩
      rw [upd_ne hq]
      exact z1
    · by_cases hb2 : b = p
      · subst hb2
        rcases g1 with z | z
        · exact .inr (.inl z)
        · exact .inr (.inr z)
      · rw [upd_ne hb2] at hb
        exact a.n b hb
    · cases h1
      exact ⟨p, vs, rfl, upd_same, DqA.mono e1 _ _ h4⟩
/-- new objects behind a step -/
theorem Step.leaf (a : Step K s F H s1 F1 H1 σ1) (b : Lf K F1 H1 r v F2 H2) : Step K s F H s1 F2 H2 σ1 ∧ Rs K s H F2 H2 s1 r v := by
  have keep : ∀ p vs, F1 p = none → H1 p = some (.lst vs) → F2 p = none ∧ H2 p = some (.lst vs) := fun p vs h1 h2 => by
    refine ⟨?_, b.h p _ h2⟩
    cases q : F2 p with
    | none => rfl
    | some o =>
      rcases b.n p (by rw [q]; intro z; cases z) with z | z
      · exact absurd h1 z
      · rw [h2] at z
        cases z
  refine ⟨⟨⟨b.le, a.st.len, fun i l o q1 q2 => (a.st.ok i l o q1 q2).mono b.f fun p xs e vs h1 h2 => keep p vs h1 h2, a.st.un⟩, a.f.trans b.f, fun x o h hn => b.h x o (a.k x o h hn), fun x h => a.t x (b.h.free h), fun x h => ?_, a.o⟩, ⟨b.ok, fun p xs e => ?_⟩⟩
  · rcases b.n x h with z | z
    · exact a.n x z
    · exact .inr (.inl (a.t x z))
  · have z := b.fr p xs e
    refine ⟨.inl (a.t p z), fun q => ?_⟩
    obtain ⟨_, vs, h3⟩ := a.st.own q
    rw [h3] at z
    cases z
theorem Lf.same (le : Same F H) (d : D) (v : V) (h : Dq K F d v) : Lf K F H (.pu d) v F H where
  f := Same.refl _
  h := Same.refl _
  le := le
  n := fun _ h => .inl h
  ok := ⟨v, rfl, h⟩
  fr := fun _ _ e => by cases e
theorem same_upd {H : Hp} {p : Addr} {o : HO} (h : H p = none) : Same H (upd H p o) := fun b x e => by
  rw [upd_ne (ne_of_none e h)]
  exact e
/-- a new list -/
theorem Lf.newL (le : Same F H) {p : Addr} (hp : H p = none) {xs : List D} {vs : List V} (h : DqA K F xs vs) : Lf K F H (.ow p xs) (.ref p) F (upd H p (.lst vs)) where
  f := Same.refl _
  h := same_upd hp
  le := le.trans (same_upd hp)
  n := fun _ h => .inl h
  ok := ⟨rfl, le.free hp, vs, upd_same, h⟩
  fr := fun q ys e => by
    cases e
    exact hp
/-- a new tuple -/
theorem Lf.newT (le : Same F H) {p : Addr} (hp : H p = none) {xs : List D} {vs : List V} (h : DqA K F xs vs) : Lf K F H (.pu (.tup xs)) (.ref p) (upd F p (.tup vs)) (upd H p (.tup vs)) where
  f := same_upd (le.free hp)
  h := same_upd hp
  le := fun b o q => by
    by_cases hb : b = p
    · subst hb
      rw [upd_same] at q ⊢
      exact q
    · rw [upd_ne hb] at q ⊢
      exact le b o q
  n := fun b hb => by
    by_cases hb2 : b = p
    · subst hb2
      exact .inr hp
    · rw [upd_ne hb2] at hb
      exact .inl hb
  ok := ⟨_, rfl, p, vs, rfl, SqT.of upd_same, DqA.mono (same_upd (le.free hp)) _ _ h⟩
  fr := fun q ys e => by cases e
end
end DL

namespace DL
open PySem L2

/-! ### readings over data -/
abbrev AE := Ss → (Sl → Ss → Prop) → Prop
abbrev AT := Ss → (Bool → Ss → Prop) → Prop
abbrev AA := Ss → (List D → Ss → Prop) → Prop
structure AEnds where
  nx : Ss → Prop
  rt : Sl → Ss → Prop
  bk : Ss → Prop
  ct : Ss → Prop
abbrev AS := AEnds → Ss → Prop
abbrev AG := D → Ss → (Ss → Prop) → Prop
abbrev AGs := List D → Ss → (Ss → Prop) → Prop
abbrev AI := Ss → (List D → Ss → Prop) → Prop
abbrev AR2 := D → D → (Sl → Prop) → Prop
abbrev ARC := List D → (Sl → Prop) → Prop

def Sim (K : PySem.W.Frag) (te : TE) (a : AE) : Prop := ∀ s P, a s P → ∀ σ F H, StOk K F H σ s → ∀ Q : VK,
  (∀ r s' v F' H', P r s' → Step K s F H s' F' H' σ → Rs K s H F' H' s' r v → Q v H') → te σ H Q
def SimT (K : PySem.W.Frag) (tt : TT) (a : AT) : Prop := ∀ s P, a s P → ∀ σ F H, StOk K F H σ s → ∀ Q : Bool → Hp → Prop,
  (∀ b s' F' H', P b s' → Step K s F H s' F' H' σ → Q b H') → tt σ H Q
def SimA (K : PySem.W.Frag) (ta : TA) (a : AA) : Prop := ∀ s P, a s P → ∀ σ F H, StOk K F H σ s → ∀ Q : List V → Hp → Prop,
  (∀ ds s' vs F' H', P ds s' → Step K s F H s' F' H' σ → DqA K F' ds vs → Q vs H') → ta σ H Q
def SimS (K : PySem.W.Frag) (ts : TS) (a : AS) : Prop := ∀ A s, a A s → ∀ σ F H, StOk K F H σ s → ∀ E : Ends,
  (∀ s' σ' F' H', A.nx s' → Step K s F H s' F' H' σ' → E.nx σ' H') →
  (∀ r s' σ' v F' H', A.rt r s' → Step K s F H s' F' H' σ' → Rs K s H F' H' s' r v → E.rt v H') →
  (∀ s' σ' F' H', A.bk s' → Step K s F H s' F' H' σ' → E.bk σ' H') →
  (∀ s' σ' F' H', A.ct s' → Step K s F H s' F' H' σ' → E.ct σ' H') → ts E σ H
/-- a target: L the slots that it stores to -/
def SimG (K : PySem.W.Frag) (g : TG) (a : AG) (L : List Nat) : Prop := ∀ d s P, a d s P → ∀ v σ F H, StOk K F H σ s → Dq K F d v → ∀ Q : L2.St → Hp → Prop,
  (∀ s' σ', P s' → Step K s F H s' F H σ' → (∀ j, j ∉ L → σ'[j]? = σ[j]?) → σ'.length = σ.length → Q σ' H) → g v σ H Q
def SimGs (K : PySem.W.Frag) (g : TGs) (a : AGs) (L : List Nat) : Prop := ∀ ds s P, a ds s P → ∀ vs σ F H, StOk K F H σ s → DqA K F ds vs → ∀ Q : L2.St → Hp → Prop,
  (∀ s' σ', P s' → Step K s F H s' F H σ' → (∀ j, j ∉ L → σ'[j]? = σ[j]?) → σ'.length = σ.length → Q σ' H) → g vs σ H Q
/-- what an iterator gives while F stands -/
def Yields (K : PySem.W.Frag) (J : It) (F : Hp) (ds : List D) : Prop := ∃ (G : Hp → Prop) (Y : Nat → Hp → V → Hp → Prop), Walk J ds.length G Y ∧ (∀ H, Same F H → G H) ∧
  ∀ i H x H', Same F H → Y i H x H' → ∀ d, ds[i]? = some d → ∀ F1, Same F F1 → Same F1 H → ∃ F2, Lf K F1 H (.pu d) x F2 H'
def SimI (K : PySem.W.Frag) (wi : TI) (a : AI) : Prop := ∀ s P, a s P → ∀ σ F H, StOk K F H σ s → ∀ R : It → Hp → Prop,
  (∀ ds s' J F' H', P ds s' → Step K s F H s' F' H' σ → Yields K J F' ds → R J H') → wi σ H R
/-- by values -/
def RD (K : PySem.W.Frag) (r : R2) (a : AR2) : Prop := ∀ d e P, a d e P → ∀ F H x y, Same F H → Dq K F d x → Dq K F e y → ∀ Q : VK, (∀ rs v F' H', P rs → Lf K F H rs v F' H' → Q v H') → r x y H Q
def RC (K : PySem.W.Frag) (r : List V → Hp → VK → Prop) (a : ARC) : Prop := ∀ ds P, a ds P → ∀ F H xs, Same F H → DqA K F ds xs → ∀ Q : VK, (∀ rs v F' H', P rs → Lf K F H rs v F' H' → Q v H') → r xs H Q

section
variable {K : PySem.W.Frag} {te ta tb tc : TE} {a aa ab ac : AE} {F H : Hp} {s : Ss} {σ : L2.St}
theorem Sim.d (h : Sim K te a) {P : Sl → Ss → Prop} (q : a s P) (ok : StOk K F H σ s) {Q : VK} (k : ∀ r s' v F' H', P r s' → Step K s F H s' F' H' σ → Dq K F' r.d v → Q v H') : te σ H Q :=
  h s P q σ F H ok Q fun r s' v F' H' p st rs => by
    obtain ⟨F2, st2, _, d⟩ := st.freeze rs
    exact k r s' v F2 H' p st2 d
theorem Rs.pu {s' : Ss} {F' H' : Hp} {d : D} {v : V} (h : Dq K F' d v) : Rs K s H F' H' s' (.pu d) v := ⟨⟨v, rfl, h⟩, fun _ _ e => by cases e⟩
theorem Rs.more {s' s1 : Ss} {F' H' H1 F1 : Hp} {r : Sl} {v : V} {σ1 : L2.St} (st : Step K s F H s1 F1 H1 σ1) (rs : Rs K s1 H1 F' H' s' r v) : Rs K s H F' H' s' r v := ⟨rs.ok, fun p xs e => by
  obtain ⟨g1, g2⟩ := rs.fr p xs e
  refine ⟨?_, g2⟩
  rcases g1 with z | z
  · exact .inl (st.t p z)
  · rcases st.o p z with y | y
    · exact .inr y
    · exact .inl y⟩

/-! ### names and constants -/
def aVar (i : Nat) : AE := fun s P => match s[i]? with
  | some (.pu d) => P (.pu d) s
  | some (.ow _ xs) => P (.pu (.lst xs)) (s.set i (.pu (.lst xs)))
  | _ => False
def aMov (i : Nat) : AE := fun s P => match s[i]? with
  | some (.ow p xs) => P (.ow p xs) (s.set i .no)
  | _ => False
def aC (d : D) : AE := fun s P => P (.pu d) s
theorem sim_c {d : D} {v : V} (h : ∀ F, Dq K F d v) : Sim K (tC v) (aC d) := fun s P q σ F H ok Q k => k (.pu d) s v F H q (.refl ok) (.pu (h F))
/-- a slot gets a value -/
theorem StOk.put {F H : Hp} {σ : L2.St} {s : Ss} {i : Nat} {v : V} {l : Sl} (ok : StOk K F H σ s) (h : SlOk K F H l (some v)) (hn : ∀ p xs, l = .ow p xs → ¬ Own s p) : StOk K F H (σ.set i (some v)) (s.set i l) where
  le := ok.le
  len := by rw [List.length_set, List.length_set, ok.len]
  ok := fun j l2 o h1 h2 => by
    rw [List.getElem?_set] at h1 h2
    by_cases e : i = j
    · subst e
      rw [if_pos rfl] at h1 h2
      split at h1
      · split at h2
        · cases h1
          cases h2
          exact h
        · cases h2
      · cases h1
    · rw [if_neg e] at h1 h2
      exact ok.ok j l2 o h1 h2
  un := fun j k p xs ys h1 h2 => by
    rw [List.getElem?_set] at h1 h2
    by_cases e : i = j
    · subst e
      rw [if_pos rfl] at h1
      split at h1
      · cases h1
        by_cases e2 : i = k
        · exact e2
        · rw [if_neg e2] at h2
          exact absurd ⟨k, ys, h2⟩ (hn p xs rfl)
      · cases h1
    · rw [if_neg e] at h1
      by_cases e2 : i = k
      · subst e2
        rw [if_pos rfl] at h2
        split at h2
        · cases h2
          exact absurd ⟨j, xs, h1⟩ (hn p ys rfl)
        · cases h2
      · rw [if_neg e2] at h2
        exact ok.un j k p xs ys h1 h2
/-- a slot is forgotten, or told anew -/
theorem StOk.tell {F H : Hp} {σ : L2.St} {s : Ss} {i : Nat} {l : Sl} (ok : StOk K F H σ s) (h : ∀ o, σ[i]? = some o → SlOk K F H l o) (hn : ∀ p xs, l = .ow p xs → ∃ ys, s[i]? = some (.ow p ys)) : StOk K F H σ (s.set i l) where
  le := ok.le
  len := by rw [List.length_set, ok.len]
  ok := fun j l2 o h1 h2 => by
    rw [List.getElem?_set] at h1
    by_cases e : i = j
    · subst e
      rw [if_pos rfl] at h1
      split at h1
      · cases h1
        exact h o h2
      · cases h1
    · rw [if_neg e] at h1
      exact ok.ok j l2 o h1 h2
  un := fun j k p xs ys h1 h2 => by
    have back : ∀ (m : Nat) (zs : List D), (s.set i l)[m]? = some (Sl.ow p zs) → ∃ ws, s[m]? = some (Sl.ow p ws) := fun m zs h => by
      rw [List.getElem?_set] at h
      by_cases e : i = m
      · subst e
        rw [if_pos rfl] at h
        split at h
        · cases h
          exact hn p zs rfl
        · cases h
      · rw [if_neg e] at h
        exact ⟨zs, h⟩
    obtain ⟨w1, g1⟩ := back j xs h1
    obtain ⟨w2, g2⟩ := back k ys h2
    exact ok.un j k p w1 w2 g1 g2
theorem own_set {s : Ss} {i : Nat} {l : Sl} {p : Addr} (h : Own (s.set i l) p) : Own s p ∨ ∃ xs, l = .ow p xs := by
  obtain ⟨j, xs, e⟩ := h
  rw [List.getElem?_set] at e
  by_cases e2 : i = j
  · rw [if_pos e2] at e
    split at e
    · cases e
      exact .inr ⟨xs, rfl⟩
    · cases e
  · rw [if_neg e2] at e
    exact .inl ⟨j, xs, e⟩
theorem sim_var {i : Nat} : Sim K (tVar i) (aVar i) := fun s P q σ F H ok Q k => by
  unfold aVar at q
  cases e : s[i]? with
  | none =>
    rw [e] at q
    exact q.elim
  | some l =>
    rw [e] at q
    obtain ⟨o, h1, h2⟩ := ok.get e
    cases l with
    | no => exact q.elim
    | pu d =>
      obtain ⟨v, rfl, h3⟩ := h2
      exact ⟨v, h1, k (.pu d) s v F H q (.refl ok) (.pu h3)⟩
    | ow p xs =>
      obtain ⟨rfl, g1, vs, g2, g3⟩ := h2
      refine ⟨.ref p, h1, ?_⟩
      have e1 : Same F (upd F p (.lst vs)) := same_upd g1
      have e2 : Same (upd F p (.lst vs)) H := fun b o q => by
        by_cases hb : b = p
        · subst hb
          rw [upd_same] at q
          cases q
          exact g2
        · rw [upd_ne hb] at q
          exact ok.le b o q
      have dv : Dq K (upd F p (.lst vs)) (.lst xs) (.ref p) := ⟨p, vs, rfl, upd_same, DqA.mono e1 _ _ g3⟩
      refine k (.pu (.lst xs)) _ (.ref p) (upd F p (.lst vs)) H q ⟨⟨e2, by rw [List.length_set, ok.len], fun j l2 o h3 h4 => ?_, fun j m p2 ys zs h3 h4 => ?_⟩, e1, fun a o h _ => h, fun a h => h, fun a h => ?_, fun p2 h => ?_⟩ (.pu dv)
      · rw [List.getElem?_set] at h3
        by_cases e3 : i = j
        · subst e3
          rw [if_pos rfl] at h3
          split at h3
          · cases h3
            rw [h1] at h4
            cases h4
            exact ⟨_, rfl, dv⟩
          · cases h3
        · rw [if_neg e3] at h3
          refine (ok.ok j l2 o h3 h4).mono e1 fun p3 zs e4 us z1 z2 => ⟨?_, z2⟩
          have hp : p3 ≠ p := fun z => by
            subst z
            rw [e4] at h3
            exact e3 (ok.un i j p3 xs zs e h3)
          rw [upd_ne hp]
          exact z1
      · rw [List.getElem?_set] at h3 h4
        by_cases e3 : i = j
        · rw [if_pos e3] at h3
          split at h3 <;> cases h3
        · rw [if_neg e3] at h3
          by_cases e4 : i = m
          · rw [if_pos e4] at h4
            split at h4 <;> cases h4
          · rw [if_neg e4] at h4
            exact ok.un j m p2 ys zs h3 h4
      · by_cases hb : a = p
        · subst hb
          exact .inr (.inr ⟨i, xs, e⟩)
        · rw [upd_ne hb] at h
          exact .inl h
      · rcases own_set h with z | ⟨ys, z⟩
        · exact .inl z
        · cases z
theorem sim_mov {i : Nat} : Sim K (tVar i) (aMov i) := fun s P q σ F H ok Q k => by
  unfold aMov at q
  cases e : s[i]? with
  | none =>
    rw [e] at q
    exact q.elim
  | some l =>
    rw [e] at q
    obtain ⟨o, h1, h2⟩ := ok.get e
    cases l with
    | no => exact q.elim
    | pu d => exact q.elim
    | ow p xs =>
      have h2' := h2
      obtain ⟨rfl, g1, vs, g2, g3⟩ := h2
      refine ⟨.ref p, h1, ?_⟩
      refine k (.ow p xs) _ (.ref p) F H q ⟨ok.tell (fun _ _ => trivial) (fun _ _ z => by cases z), Same.refl _, fun a o h _ => h, fun a h => h, fun a h => .inl h, fun p2 h => ?_⟩ ⟨h2', fun p2 ys z => ?_⟩
      · rcases own_set h with z | ⟨ys, z⟩
        · exact .inl z
        · cases z
      · cases z
        refine ⟨.inr ⟨i, xs, e⟩, fun h => ?_⟩
        obtain ⟨j, ys, e2⟩ := h
        rw [List.getElem?_set] at e2
        by_cases e3 : i = j
        · rw [if_pos e3] at e2
          split at e2 <;> cases e2
        · rw [if_neg e3] at e2
          exact e3 (ok.un i j _ _ _ e e2)

/-! ### operators -/
def aOp (r : AR2) (aa ab : AE) : AE := fun s P => aa s fun r1 s1 => ab s1 fun r2 s2 => r r1.d r2.d fun rs => P rs s2
theorem sim_op {r : R2} {ar : AR2} (hr : RD K r ar) (ha : Sim K ta aa) (hb : Sim K tb ab) : Sim K (tOp r ta tb) (aOp ar aa ab) := fun s P q σ F H ok Q k => by
  refine ha.d q ok fun r1 s1 v1 F1 H1 q1 st1 d1 => ?_
  refine hb.d q1 st1.st fun r2 s2 v2 F2 H2 q2 st2 d2 => ?_
  refine hr _ _ _ q2 F2 H2 v1 v2 st2.st.le (Dq.mono st2.f _ _ d1) d2 Q fun rs v F3 H3 p l => ?_
  obtain ⟨st3, rs3⟩ := (st1.trans st2).leaf l
  exact k rs s2 v F3 H3 p st3 rs3
def aIC (C : Int → Int → Prop) (f : Int → Int → Int) : AR2 := fun d e P => match d, e with
  | .int i, .int j => C i j ∧ P (.pu (.int (f i j)))
  | _, _ => False
def aI (f : Int → Int → Int) : AR2 := fun d e P => match d, e with
  | .int i, .int j => P (.pu (.int (f i j)))
  | _, _ => False
def aB (f : Int → Int → Bool) : AR2 := fun d e P => match d, e with
  | .int i, .int j => P (.pu (.bl (f i j)))
  | _, _ => False
theorem rd_ic {C : Int → Int → Prop} {f : Int → Int → Int} : RD K (rI C fun i j => .int (f i j)) (aIC C f) := fun d e P q F H x y le dx dy Q k => by
  cases d <;> cases e <;> first | exact q.elim | skip
  exact ⟨_, _, dx, dy, q.1, k _ _ F H q.2 (Lf.same le _ _ rfl)⟩
theorem rd_i {f : Int → Int → Int} : RD K (rI0 fun i j => .int (f i j)) (aI f) := fun d e P q F H x y le dx dy Q k => by
  cases d <;> cases e <;> first | exact q.elim | skip
  exact ⟨_, _, dx, dy, k _ _ F H q (Lf.same le _ _ rfl)⟩
theorem rd_b {f : Int → Int → Bool} : RD K (rI0 fun i j => .bl (f i j)) (aB f) := fun d e P q F H x y le dx dy Q k => by
  cases d <;> cases e <;> first | exact q.elim | skip
  exact ⟨_, _, dx, dy, k _ _ F H q (Lf.same le _ _ rfl)⟩
/-- == of scalars -/
def eqS : D → D → Option Bool
  | .int i, .int j => some (decide (i = j))
  | .str i, .str j => some (decide (i = j))
  | .bl i, .bl j => some (decide (i = j))
  | .non, .non => some true
  | .non, .int _ => some false
  | .int _, .non => some false
  | .non, .str _ => some false
  | .str _, .non => some false
  | .int _, .str _ => some false
  | .str _, .int _ => some false
  | .bl _, .str _ => some false
  | .str _, .bl _ => some false
  | _, _ => none
def aEq : AR2 := fun d e P => match eqS d e with | some b => P (.pu (.bl b)) | none => False
def aNe : AR2 := fun d e P => match eqS d e with | some b => P (.pu (.bl (!b))) | none => False
theorem eqS_ok {F : Hp} {d e : D} {b : Bool} {x y : V} (h : eqS d e = some b) (dx : Dq K F d x) (dy : Dq K F e y) : scal x y = true ∧ decide (x = y) = b := by
  cases d <;> cases e <;> first | (cases h; done) | skip
  all_goals
    cases (show x = _ from dx)
    cases (show y = _ from dy)
    cases h
    refine ⟨rfl, ?_⟩
    first
      | rfl
      | (apply decide_eq_decide.mpr; constructor <;> intro z <;> first | (cases z; rfl) | (rw [z]))
theorem rd_eq : RD K rEq aEq := fun d e P q F H x y le dx dy Q k => by
  unfold aEq at q
  cases h : eqS d e with
  | none =>
    rw [h] at q
    exact q.elim
  | some b =>
    rw [h] at q
    obtain ⟨h1, h2⟩ := eqS_ok h dx dy
    refine ⟨h1, ?_⟩
    rw [h2]
    exact k _ _ F H q (Lf.same le _ _ rfl)
theorem rd_ne : RD K rNe aNe := fun d e P q F H x y le dx dy Q k => by
  unfold aNe at q
  cases h : eqS d e with
  | none =>
    rw [h] at q
    exact q.elim
  | some b =>
    rw [h] at q
    obtain ⟨h1, h2⟩ := eqS_ok h dx dy
    refine ⟨h1, ?_⟩
    rw [h2]
    exact k _ _ F H q (Lf.same le _ _ rfl)
/-- is None -/
def isN : D → Option Bool
  | .non => some true
  | .ob _ => none
  | _ => some false
theorem isN_ok {F : Hp} {d : D} {b : Bool} {x : V} (h : isN d = some b) (dx : Dq K F d x) : decide (x = .non) = b := by
  cases d with
  | non =>
    cases h
    exact decide_eq_true dx
  | ob f => cases h
  | bl i =>
    cases h
    cases (show x = _ from dx)
    rfl
  | int i =>
    cases h
    cases (show x = _ from dx)
    rfl
  | str i =>
    cases h
    cases (show x = _ from dx)
    rfl
  | tup ds =>
    cases h
    obtain ⟨a, xs, rfl, _⟩ := dx
    rfl
  | lst ds =>
    cases h
    obtain ⟨a, xs, rfl, _⟩ := dx
    rfl
  | scr ds =>
    cases h
    obtain ⟨a, xs, rfl, _⟩ := dx
    rfl
def aIsN : AR2 := fun d e P => match e, isN d with | .non, some b => P (.pu (.bl b)) | _, _ => False
def aNotN : AR2 := fun d e P => match e, isN d with | .non, some b => P (.pu (.bl (!b))) | _, _ => False
theorem rd_isN : RD K (fun x y H Q => y = .non ∧ Q (.bl (decide (x = .non))) H) aIsN := fun d e P q F H x y le dx dy Q k => by
  unfold aIsN at q
  cases e <;> first | exact q.elim | skip
  cases h : isN d with
  | none =>
    rw [h] at q
    exact q.elim
  | some b =>
    rw [h] at q
    refine ⟨dy, ?_⟩
    rw [isN_ok h dx]
    exact k _ _ F H q (Lf.same le _ _ rfl)
theorem rd_notN : RD K (fun x y H Q => y = .non ∧ Q (.bl (!decide (x = .non))) H) aNotN := fun d e P q F H x y le dx dy Q k => by
  unfold aNotN at q
  cases e <;> first | exact q.elim | skip
  cases h : isN d with
  | none =>
    rw [h] at q
    exact q.elim
  | some b =>
    rw [h] at q
    refine ⟨dy, ?_⟩
    rw [isN_ok h dx]
    exact k _ _ F H q (Lf.same le _ _ rfl)
/-- in, not in: flat items -/
def flatD : D → Bool
  | .non => true
  | .bl _ => true
  | .int _ => true
  | .str _ => true
  | _ => false
def eqF : D → D → Bool
  | .non, .non => true
  | .bl a, .bl b => a == b
  | .bl a, .int b => (if a then 1 else 0) == b
  | .int a, .bl b => a == (if b then 1 else 0)
  | .int a, .int b => a == b
  | .str a, .str b => a == b
  | _, _ => false
def inF (x : D) (xs : List D) : Bool := xs.any fun y => eqF y x
def seqD : D → Option (List D)
  | .tup xs => some xs
  | .lst xs => some xs
  | .scr xs => some xs
  | _ => none
theorem seqD_ok {F : Hp} {d : D} {ds : List D} {x : V} (h : seqD d = some ds) (dx : Dq K F d x) : ∃ a xs, x = .ref a ∧ (SqL K F a xs ∨ SqT K F a xs) ∧ DqA K F ds xs := by
  cases d <;> first | (cases h; done) | skip
  · cases h
    obtain ⟨a, xs, h1, h2, h3⟩ := dx
    exact ⟨a, xs, h1, .inr h2, h3⟩
  · cases h
    obtain ⟨a, xs, h1, h2, h3⟩ := dx
    exact ⟨a, xs, h1, .inl (SqL.of h2), h3⟩
  · cases h
    obtain ⟨a, xs, h1, h2, h3⟩ := dx
    exact ⟨a, xs, h1, .inl h2, h3⟩
theorem flat_ok {F : Hp} {d : D} {x : V} (h : flatD d = true) (dx : Dq K F d x) : flatV x = true := by
  cases d <;> first | (cases h; done) | (cases (show x = _ from dx); rfl)
theorem flat_eq {F : Hp} {d e : D} {x y : V} (h : flatD d = true) (h2 : flatD e = true) (dx : Dq K F d x) (dy : Dq K F e y) : eqV x y = eqF d e := by
  cases d <;> first | (cases h; done) | skip
  all_goals
    cases (show x = _ from dx)
    cases e <;> first | (cases h2; done) | (cases (show y = _ from dy); rfl)
theorem flat_all {F : Hp} : ∀ {ds : List D} {xs : List V}, ds.all flatD = true → DqA K F ds xs → xs.all flatV = true
  | [], xs, _, h => by
    rw [show xs = [] from h]
    rfl
  | d :: ds, xs, hf, h => by
    obtain ⟨x, r, rfl, h2, h3⟩ := h
    rw [List.all_cons, Bool.and_eq_true] at hf
    rw [List.all_cons, flat_ok hf.1 h2, flat_all hf.2 h3]
    rfl
theorem flat_in {F : Hp} {e : D} {y : V} (h2 : flatD e = true) (dy : Dq K F e y) : ∀ {ds : List D} {xs : List V}, ds.all flatD = true → DqA K F ds xs → inV y xs = inF e ds
  | [], xs, _, h => by
    rw [show xs = [] from h]
    rfl
  | d :: ds, xs, hf, h => by
    obtain ⟨x, r, rfl, h4, h3⟩ := h
    rw [List.all_cons, Bool.and_eq_true] at hf
    have ih := flat_in h2 dy hf.2 h3
    unfold inV inF at ih ⊢
    rw [List.any_cons, List.any_cons, ih, flat_eq hf.1 h2 h4 dy]
def aIn (neg : Bool) : AR2 := fun d e P => match seqD e with
  | some ds => flatD d = true ∧ ds.all flatD = true ∧ P (.pu (.bl (if neg then !inF d ds else inF d ds)))
  | none => False
theorem rd_in {neg : Bool} : RD K (rIn K neg) (aIn neg) := fun d e P q F H x y le dx dy Q k => by
  unfold aIn at q
  cases h : seqD e with
  | none =>
    rw [h] at q
    exact q.elim
  | some ds =>
    rw [h] at q
    obtain ⟨q1, q2, q3⟩ := q
    obtain ⟨a, xs, rfl, h1, h2⟩ := seqD_ok h dy
    refine ⟨a, xs, rfl, ?_, flat_ok q1 dx, flat_all q2 h2, ?_⟩
    · rcases h1 with h1 | h1
      · exact .inl (Same.seq le h1)
      · exact .inr (Same.sqt le h1)
    · rw [flat_in q1 dx q2 h2]
      exact k _ _ F H q3 (Lf.same le _ _ rfl)
/-- x[i] -/
def aIx : AR2 := fun d e P => match seqD d, e with
  | some ds, .int i => match atI ds i with
    | some d => P (.pu d)
    | none => False
  | _, _ => False
theorem atI_ok {F : Hp} {ds : List D} {xs : List V} {i : Int} {d : D} (h : DqA K F ds xs) (e : atI ds i = some d) : ∃ x, atI xs i = some x ∧ Dq K F d x := by
  unfold atI at e ⊢
  rw [h.length]
  cases q : ixN ds.length i with
  | none =>
    rw [q] at e
    cases e
  | some j =>
    rw [q] at e
    exact h.get (i := j) e
theorem rd_ix : RD K (fun x y H Q => rIxL K x y H Q ∨ rIxT K x y H Q ∨ rIxS x y H Q) aIx := fun d e P q F H x y le dx dy Q k => by
  unfold aIx at q
  cases h : seqD d with
  | none =>
    rw [h] at q
    exact q.elim
  | some ds =>
    rw [h] at q
    cases e <;> first | exact q.elim | skip
    rename_i i
    cases h2 : atI ds i with
    | none =>
      simp only [h2] at q
    | some d2 =>
      simp only [h2] at q
      obtain ⟨a, xs, rfl, g1, g2⟩ := seqD_ok h dx
      obtain ⟨z, e1, e2⟩ := atI_ok g2 h2
      rcases g1 with g1 | g1
      · exact .inl ⟨a, xs, i, z, rfl, dy, Same.seq le g1, e1, k _ _ F H q (Lf.same le _ _ e2)⟩
      · exact .inr (.inl ⟨a, xs, i, z, rfl, dy, Same.sqt le g1, e1, k _ _ F H q (Lf.same le _ _ e2)⟩)
/-! ### arguments, calls -/
def aNil : AA := fun s P => P [] s
def aCons (a : AE) (r : AA) : AA := fun s P => a s fun r1 s1 => r s1 fun ds s2 => P (r1.d :: ds) s2
theorem sim_nil : SimA K tNil aNil := fun s P q σ F H ok Q k => k [] s [] F H q (.refl ok) rfl
theorem sim_cons {tr : TA} {ar : AA} (ha : Sim K ta aa) (hr : SimA K tr ar) : SimA K (tCons ta tr) (aCons aa ar) := fun s P q σ F H ok Q k => by
  refine ha.d q ok fun r1 s1 v1 F1 H1 q1 st1 d1 => ?_
  refine hr s1 _ q1 σ F1 H1 st1.st _ fun ds s2 vs F2 H2 q2 st2 d2 => ?_
  exact k (r1.d :: ds) s2 (v1 :: vs) F2 H2 q2 (st1.trans st2) ⟨v1, vs, rfl, Dq.mono st2.f _ _ d1, d2⟩
def aCall (r : ARC) (a : AA) : AE := fun s P => a s fun ds s1 => r ds fun rs => P rs s1
theorem sim_cb {r : List V → Hp → VK → Prop} {ar : ARC} {t : TA} {a : AA} (hr : RC K r ar) (ha : SimA K t a) : Sim K (tCB r t) (aCall ar a) := fun s P q σ F H ok Q k => by
  refine ha s _ q σ F H ok _ fun ds s1 vs F1 H1 q1 st1 d1 => ?_
  refine hr ds _ q1 F1 H1 vs st1.st.le d1 Q fun rs v F2 H2 p l => ?_
  obtain ⟨st2, rs2⟩ := st1.leaf l
  exact k rs s1 v F2 H2 p st2 rs2
def aTup (a : AA) : AE := fun s P => a s fun ds s1 => ds.length ≤ 100000 ∧ P (.pu (.tup ds)) s1
def aLst (a : AA) : AE := fun s P => a s fun ds s1 => ds.length ≤ 100000 ∧ ∀ p, P (.ow p ds) s1
theorem sz_of {n : Nat} (h : n ≤ 100000) : n ≤ sizeLine := Nat.le_trans h (by decide)
theorem sz_lt {n : Nat} (h : n < 100000) : n < sizeLine := Nat.lt_of_lt_of_le h (by decide)
theorem sim_tup {t : TA} {a : AA} (ha : SimA K t a) : Sim K (tTup t) (aTup a) := fun s P q σ F H ok Q k => by
  refine ha s _ q σ F H ok _ fun ds s1 vs F1 H1 q1 st1 d1 => ⟨?_, fun p hp => ?_⟩
  · rw [d1.length]
    exact sz_of q1.1
  · obtain ⟨st2, rs2⟩ := st1.leaf (Lf.newT st1.st.le hp d1)
    exact k _ s1 _ _ _ q1.2 st2 rs2
theorem sim_lst {t : TA} {a : AA} (ha : SimA K t a) : Sim K (tLst t) (aLst a) := fun s P q σ F H ok Q k => by
  refine ha s _ q σ F H ok _ fun ds s1 vs F1 H1 q1 st1 d1 => ⟨?_, fun p hp => ?_⟩
  · rw [d1.length]
    exact sz_of q1.1
  · obtain ⟨st2, rs2⟩ := st1.leaf (Lf.newL st1.st.le hp d1)
    exact k _ s1 _ _ _ (q1.2 p) st2 rs2

/-! ### tests -/
def aTest (a : AE) : AT := fun s P => a s fun r s1 => match r.d with
  | .bl b => P b s1
  | _ => False
theorem sim_test (h : Sim K te a) : SimT K (tTest te) (aTest a) := fun s P q σ F H ok Q k => by
  refine h.d q ok fun r s1 v F1 H1 q1 st1 d1 => ?_
  cases e : r.d <;> simp only [e] at q1
  rename_i b
  rw [e] at d1
  exact ⟨b, d1, k b s1 F1 H1 q1 st1⟩
theorem sim_B (h : Sim K te a) : SimT K (tB te) (aTest a) := sim_test h
def aAnd (a b : AT) : AT := fun s P => a s fun c s1 => if c = true then b s1 P else P false s1
def aOr (a b : AT) : AT := fun s P => a s fun c s1 => if c = true then P true s1 else b s1 P
def aNot (a : AT) : AT := fun s P => a s fun c s1 => P (!c) s1
section
variable {t u : TT} {at1 au : AT}
theorem sim_and (h : SimT K t at1) (h2 : SimT K u au) : SimT K (tAnd t u) (aAnd at1 au) := fun s P q σ F H ok Q k => by
  refine h s _ q σ F H ok _ fun c s1 F1 H1 q1 st1 => ?_
  cases c with
  | true => exact h2 s1 _ q1 σ F1 H1 st1.st _ fun b s2 F2 H2 q2 st2 => k b s2 F2 H2 q2 (st1.trans st2)
  | false => exact k false s1 F1 H1 q1 st1
theorem sim_or (h : SimT K t at1) (h2 : SimT K u au) : SimT K (tOr t u) (aOr at1 au) := fun s P q σ F H ok Q k => by
  refine h s _ q σ F H ok _ fun c s1 F1 H1 q1 st1 => ?_
  cases c with
  | true => exact k true s1 F1 H1 q1 st1
  | false => exact h2 s1 _ q1 σ F1 H1 st1.st _ fun b s2 F2 H2 q2 st2 => k b s2 F2 H2 q2 (st1.trans st2)
theorem sim_not (h : SimT K t at1) : SimT K (tNot t) (aNot at1) := fun s P q σ F H ok Q k => h s _ q σ F H ok _ fun c s1 F1 H1 q1 st1 => k (!c) s1 F1 H1 q1 st1
def aIf (c : AT) (a b : AE) : AE := fun s P => c s fun k s1 => if k = true then a s1 P else b s1 P
theorem sim_if (h : SimT K t at1) (ha : Sim K ta aa) (hb : Sim K tb ab) : Sim K (tIf t ta tb) (aIf at1 aa ab) := fun s P q σ F H ok Q k => by
  refine h s _ q σ F H ok _ fun c s1 F1 H1 q1 st1 => ?_
  cases c with
  | true => exact ha s1 _ q1 σ F1 H1 st1.st _ fun r s2 v F2 H2 q2 st2 rs => k r s2 v F2 H2 q2 (st1.trans st2) (rs.more st1)
  | false => exact hb s1 _ q1 σ F1 H1 st1.st _ fun r s2 v F2 H2 q2 st2 rs => k r s2 v F2 H2 q2 (st1.trans st2) (rs.more st1)
end
def aAndV (a b : AE) : AE := fun s P => a s fun r s1 => match r.d with
  | .bl c => if c = true then b s1 P else P (.pu (.bl false)) s1
  | _ => False
def aOrV (a b : AE) : AE := fun s P => a s fun r s1 => match r.d with
  | .bl c => if c = true then P (.pu (.bl true)) s1 else b s1 P
  | _ => False
def aNotV (a : AE) : AE := fun s P => a s fun r s1 => match r.d with
  | .bl c => P (.pu (.bl (!c))) s1
  | _ => False
theorem sim_andV (ha : Sim K ta aa) (hb : Sim K tb ab) : Sim K (tAndV ta tb) (aAndV aa ab) := fun s P q σ F H ok Q k => by
  refine ha.d q ok fun r s1 v F1 H1 q1 st1 d1 => ?_
  cases e : r.d <;> simp only [e] at q1
  rename_i c
  rw [e] at d1
  refine ⟨c, d1, ?_⟩
  cases c with
  | true => exact hb s1 _ q1 σ F1 H1 st1.st _ fun r s2 v F2 H2 q2 st2 rs => k r s2 v F2 H2 q2 (st1.trans st2) (rs.more st1)
  | false => exact k _ s1 _ F1 H1 q1 st1 (.pu rfl)
theorem sim_orV (ha : Sim K ta aa) (hb : Sim K tb ab) : Sim K (tOrV ta tb) (aOrV aa ab) := fun s P q σ F H ok Q k => by
  refine ha.d q ok fun r s1 v F1 H1 q1 st1 d1 => ?_
  cases e : r.d <;> simp only [e] at q1
  rename_i c
  rw [e] at d1
  refine ⟨c, d1, ?_⟩
  cases c with
  | true => exact k _ s1 _ F1 H1 q1 st1 (.pu rfl)
  | false => exact hb s1 _ q1 σ F1 H1 st1.st _ fun r s2 v F2 H2 q2 st2 rs => k r s2 v F2 H2 q2 (st1.trans st2) (rs.more st1)
theorem sim_notV (ha : Sim K ta aa) : Sim K (tNotV ta) (aNotV aa) := fun s P q σ F H ok Q k => by
  refine ha.d q ok fun r s1 v F1 H1 q1 st1 d1 => ?_
  cases e : r.d <;> simp only [e] at q1
  rename_i c
  rw [e] at d1
  exact ⟨c, d1, k _ s1 _ F1 H1 q1 st1 (.pu rfl)⟩
/-- a op b op c -/
def aChain (r r' : AR2) (aa ab ac : AE) : AE := fun s P => aa s fun r1 s1 => ab s1 fun r2 s2 => r r1.d r2.d fun z => match z with
  | .pu (.bl c) => if c = true then ac s2 fun r3 s3 => r' r2.d r3.d fun rs => P rs s3 else P (.pu (.bl false)) s2
  | _ => False
theorem sim_chain {r r' : R2} {ar ar' : AR2} (hr : RD K r ar) (hr' : RD K r' ar') (ha : Sim K ta aa) (hb : Sim K tb ab) (hc : Sim K tc ac) : Sim K (tChain r r' ta tb tc) (aChain ar ar' aa ab ac) := fun s P q σ F H ok Q k => by
  refine ha.d q ok fun r1 s1 v1 F1 H1 q1 st1 d1 => ?_
  refine hb.d q1 st1.st fun r2 s2 v2 F2 H2 q2 st2 d2 => ?_
  refine hr _ _ _ q2 F2 H2 v1 v2 st2.st.le (Dq.mono st2.f _ _ d1) d2 _ fun rs v F3 H3 p l => ?_
  obtain ⟨st3, rs3⟩ := (st1.trans st2).leaf l
  cases rs with
  | no => exact p.elim
  | ow _ _ => exact p.elim
  | pu d =>
    cases d <;> simp only at p
    rename_i c
    obtain ⟨w, e1, e2⟩ := rs3.ok
    cases e1
    refine ⟨c, e2, ?_⟩
    cases c with
    | false => exact k _ s2 _ F3 H3 p st3 (.pu rfl)
    | true =>
      refine hc.d p st3.st fun r3 s3 v3 F4 H4 q4 st4 d4 => ?_
      refine hr' _ _ _ q4 F4 H4 v2 v3 st4.st.le (Dq.mono (l.f.trans st4.f) _ _ d2) d4 Q fun rs v F5 H5 p l => ?_
      obtain ⟨st5, rs5⟩ := (st3.trans st4).leaf l
      exact k rs s3 v F5 H5 p st5 rs5
end
end DL

namespace DL
open PySem L2

section
variable {K : PySem.W.Frag} {te ta tb tc : TE} {a aa ab ac : AE} {F H : Hp} {s : Ss} {σ : L2.St} {ts tu : TS} {as au : AS} {c : TT} {ac1 : AT}
/-! ### statements -/
def aNext : AS := fun A s => A.nx s
def aSeq (t u : AS) : AS := fun A s => t { A with nx := u A } s
def aBrk : AS := fun A s => A.bk s
def aCnt : AS := fun A s => A.ct s
def aDrop (a : AE) : AS := fun A s => a s fun _ s1 => A.nx s1
def aRet (a : AE) : AS := fun A s => a s fun r s1 => A.rt r s1
def aRetN : AS := fun A s => A.rt (.pu .non) s
def aIfS (c : AT) (t u : AS) : AS := fun A s => c s fun b s1 => if b = true then t A s1 else u A s1
def aNev : AS := fun _ _ => False
theorem sims_next : SimS K tNext aNext := fun A s q σ F H ok E kn kr kb kc => kn s σ F H q (.refl ok)
theorem sims_brk : SimS K tBreak aBrk := fun A s q σ F H ok E kn kr kb kc => kb s σ F H q (.refl ok)
theorem sims_cnt : SimS K tCont aCnt := fun A s q σ F H ok E kn kr kb kc => kc s σ F H q (.refl ok)
theorem sims_nev : SimS K tNever aNev := fun A s q σ F H ok E kn kr kb kc => q.elim
theorem sims_seq (h1 : SimS K ts as) (h2 : SimS K tu au) : SimS K (tSeq ts tu) (aSeq as au) := fun A s q σ F H ok E kn kr kb kc =>
  h1 { A with nx := au A } s q σ F H ok { E with nx := tu E } (fun s1 σ1 F1 H1 q1 st1 => h2 A s1 q1 σ1 F1 H1 st1.st E (fun s2 σ2 F2 H2 q2 st2 => kn s2 σ2 F2 H2 q2 (st1.trans st2))
    (fun r s2 σ2 v F2 H2 q2 st2 rs => kr r s2 σ2 v F2 H2 q2 (st1.trans st2) (rs.more st1)) (fun s2 σ2 F2 H2 q2 st2 => kb s2 σ2 F2 H2 q2 (st1.trans st2)) (fun s2 σ2 F2 H2 q2 st2 => kc s2 σ2 F2 H2 q2 (st1.trans st2))) kr kb kc
theorem sims_drop (h : Sim K te a) : SimS K (tDrop te) (aDrop a) := fun A s q σ F H ok E kn kr kb kc => h s _ q σ F H ok _ fun r s1 v F1 H1 q1 st1 _ => kn s1 σ F1 H1 q1 st1
theorem sims_ret (h : Sim K te a) : SimS K (tRet te) (aRet a) := fun A s q σ F H ok E kn kr kb kc => h s _ q σ F H ok _ fun r s1 v F1 H1 q1 st1 rs => kr r s1 σ v F1 H1 q1 st1 rs
theorem sims_retN : SimS K tRetN aRetN := fun A s q σ F H ok E kn kr kb kc => kr (.pu .non) s σ .non F H q (.refl ok) (.pu rfl)
theorem sims_if (h : SimT K c ac1) (h1 : SimS K ts as) (h2 : SimS K tu au) : SimS K (tIfS c ts tu) (aIfS ac1 as au) := fun A s q σ F H ok E kn kr kb kc => by
  refine h s _ q σ F H ok _ fun b s1 F1 H1 q1 st1 => ?_
  cases b with
  | true =>
    exact h1 A s1 q1 σ F1 H1 st1.st E (fun s2 σ2 F2 H2 q2 st2 => kn s2 σ2 F2 H2 q2 (st1.trans st2))
      (fun r s2 σ2 v F2 H2 q2 st2 rs => kr r s2 σ2 v F2 H2 q2 (st1.trans st2) (rs.more st1)) (fun s2 σ2 F2 H2 q2 st2 => kb s2 σ2 F2 H2 q2 (st1.trans st2)) (fun s2 σ2 F2 H2 q2 st2 => kc s2 σ2 F2 H2 q2 (st1.trans st2))
  | false =>
    exact h2 A s1 q1 σ F1 H1 st1.st E (fun s2 σ2 F2 H2 q2 st2 => kn s2 σ2 F2 H2 q2 (st1.trans st2))
      (fun r s2 σ2 v F2 H2 q2 st2 rs => kr r s2 σ2 v F2 H2 q2 (st1.trans st2) (rs.more st1)) (fun s2 σ2 F2 H2 q2 st2 => kb s2 σ2 F2 H2 q2 (st1.trans st2)) (fun s2 σ2 F2 H2 q2 st2 => kc s2 σ2 F2 H2 q2 (st1.trans st2))
/-! ### stores to names -/
/-- behind a store to a slot -/
theorem Step.put {s1 : Ss} {F1 H1 : Hp} {r : Sl} {v : V} {i : Nat} (st : Step K s F H s1 F1 H1 σ) (rs : Rs K s H F1 H1 s1 r v) : Step K s F H (s1.set i r) F1 H1 (σ.set i (some v)) where
  st := st.st.put rs.ok fun p xs e => (rs.fr p xs e).2
  f := st.f
  k := st.k
  t := st.t
  n := st.n
  o := fun p h => by
    rcases own_set h with z | ⟨xs, z⟩
    · exact st.o p z
    · exact (rs.fr p xs z).1.symm
def aSet (i : Nat) (a : AE) : AS := fun A s => a s fun r s1 => A.nx (s1.set i r)
theorem sims_set {i : Nat} (h : Sim K te a) : SimS K (tAsg te (gName i)) (aSet i a) := fun A s q σ F H ok E kn kr kb kc =>
  h s _ q σ F H ok _ fun r s1 v F1 H1 q1 st1 rs => kn _ _ F1 H1 q1 (st1.put rs)
def aAsg (a : AE) (g : AG) : AS := fun A s => a s fun r s1 => g r.d s1 A.nx
theorem sims_asg {g : TG} {ag : AG} {L : List Nat} (h : Sim K te a) (hg : SimG K g ag L) : SimS K (tAsg te g) (aAsg a ag) := fun A s q σ F H ok E kn kr kb kc =>
  h.d q ok fun r s1 v F1 H1 q1 st1 d1 => hg _ _ _ q1 v σ F1 H1 st1.st d1 _ fun s2 σ2 q2 st2 _ _ => kn s2 σ2 F1 H1 q2 (st1.trans st2)
def agName (i : Nat) : AG := fun d s P => P (s.set i (.pu d))
theorem simg_name {i : Nat} : SimG K (gName i) (agName i) [i] := fun d s P q v σ F H ok dv Q k => by
  refine k _ _ q ((Step.refl ok).put (r := .pu d) (.pu dv)) (fun j hj => ?_) (List.length_set ..)
  rw [List.getElem?_set, if_neg fun e => hj (by rw [e]; exact List.mem_singleton.mpr rfl)]
def agNil : AGs := fun ds s P => ds = [] ∧ P s
def agCons (g : AG) (r : AGs) : AGs := fun ds s P => match ds with
  | d :: ds => g d s fun s1 => r ds s1 P
  | [] => False
theorem simgs_nil : SimGs K gNil agNil [] := fun ds s P q vs σ F H ok dv Q k => by
  obtain ⟨rfl, q⟩ := q
  exact ⟨dv, k s σ q (.refl ok) (fun _ _ => rfl) rfl⟩
theorem simgs_cons {g : TG} {ag : AG} {L M : List Nat} {gs : TGs} {ags : AGs} (h : SimG K g ag L) (hr : SimGs K gs ags M) : SimGs K (gCons g gs) (agCons ag ags) (L ++ M) := fun ds s P q vs σ F H ok dv Q k => by
  cases ds with
  | nil => exact q.elim
  | cons d ds =>
    obtain ⟨x, r, rfl, h2, h3⟩ := dv
    refine ⟨x, r, rfl, ?_⟩
    refine h d s _ q x σ F H ok h2 _ fun s1 σ1 q1 st1 e1 l1 => ?_
    refine hr ds s1 _ q1 r σ1 F H st1.st h3 _ fun s2 σ2 q2 st2 e2 l2 => ?_
    refine k s2 σ2 q2 (st1.trans st2) (fun j hj => ?_) (l2.trans l1)
    rw [e2 j fun z => hj (List.mem_append_right _ z), e1 j fun z => hj (List.mem_append_left _ z)]
def agTup (g : AGs) : AG := fun d s P => match d with
  | .tup ds => g ds s P
  | _ => False
theorem simg_tup {gs : TGs} {ags : AGs} {M : List Nat} {n : Nat} (h : SimGs K gs ags M) (hn : ∀ ds s P, ags ds s P → ds.length = n) : SimG K (gTup K n gs) (agTup ags) M := fun d s P q v σ F H ok dv Q k => by
  cases d <;> first | exact q.elim | skip
  rename_i ds
  obtain ⟨a, xs, rfl, h2, h3⟩ := dv
  exact ⟨a, xs, rfl, Same.sqt ok.le h2, by rw [h3.length]; exact hn ds s P q, h ds s P q xs σ F H ok h3 Q k⟩
/-- x op= e, ints -/
def aAug (i : Nat) (f : Int → Int → Int) (a : AE) : AS := fun A s => match s[i]? with
  | some (.pu (.int x)) => a s fun r s1 => match r.d with
    | .int y => A.nx (s1.set i (.pu (.int (f x y))))
    | _ => False
  | _ => False
theorem sims_aug {i : Nat} {f : Int → Int → Int} (h : Sim K te a) : SimS K (tAug i te (ipI f)) (aAug i f a) := fun A s q σ F H ok E kn kr kb kc => by
  unfold aAug at q
  cases e : s[i]? with
  | none =>
    rw [e] at q
    exact q.elim
  | some l =>
    rw [e] at q
    obtain ⟨o, h1, h2⟩ := ok.get e
    cases l with
    | no => exact q.elim
    | ow _ _ => exact q.elim
    | pu d =>
      cases d <;> first | exact q.elim | skip
      rename_i x
      obtain ⟨v, rfl, h3⟩ := h2
      cases (show v = _ from h3)
      refine ⟨.int x, h1, ?_⟩
      refine h.d q ok fun r s1 w F1 H1 q1 st1 d1 => ?_
      cases e2 : r.d <;> simp only [e2] at q1
      rename_i y
      rw [e2] at d1
      exact ⟨x, y, rfl, d1, kn _ _ F1 H1 q1 (st1.put (r := .pu (.int (f x y))) (.pu rfl))⟩
/-! ### lists that a def owns -/
/-- x.append(e) -/
def aApp (i : Nat) (a : AE) : AS := fun A s => match s[i]? with
  | some (.ow _ _) => a s fun r s1 => match s1[i]? with
    | some (.ow p xs) => xs.length < 100000 ∧ A.nx (s1.set i (.ow p (xs ++ [r.d])))
    | _ => False
  | _ => False
/-- the list of a slot is changed -/
theorem Step.chg {s1 : Ss} {F1 H1 : Hp} {i : Nat} {p : Addr} {xs ys : List D} {vs : List V} (st : Step K s F H s1 F1 H1 σ) (e : s1[i]? = some (.ow p xs)) (d : DqA K F1 ys vs) : Step K s F H (s1.set i (.ow p ys)) F1 (upd H1 p (.lst vs)) σ := by
  have hp := (st.st.own ⟨i, xs, e⟩).1
  obtain ⟨us, hu⟩ := (st.st.own ⟨i, xs, e⟩).2
  obtain ⟨o, h1, h2⟩ := st.st.get e
  obtain ⟨rfl, _⟩ := h2
  refine ⟨⟨fun b o q => ?_, by rw [List.length_set, st.st.len], fun j l o q1 q2 => ?_, fun j k q zs ws q1 q2 => ?_⟩, st.f, fun b o q hn => ?_, fun b q => ?_, st.n, fun q h => ?_⟩
  · rw [upd_ne (ne_of_none q hp)]
    exact st.st.le b o q
  · rw [List.getElem?_set] at q1
    by_cases e2 : i = j
    · subst e2
      rw [if_pos rfl] at q1
      split at q1
      · cases q1
        rw [h1] at q2
        cases q2
        exact ⟨rfl, hp, vs, upd_same, d⟩
      · cases q1
    · rw [if_neg e2] at q1
      refine (st.st.ok j l o q1 q2).mono (Same.refl _) fun q zs e3 ws z1 z2 => ⟨z1, ?_⟩
      have hq : q ≠ p := fun z => by
        subst z
        rw [e3] at q1
        exact e2 (st.st.un i j q xs zs e q1)
      rw [upd_ne hq]
      exact z2
  · have back : ∀ (m : Nat) (zs : List D), (s1.set i (.ow p ys))[m]? = some (Sl.ow q zs) → ∃ ws, s1[m]? = some (Sl.ow q ws) := fun m zs h => by
      rw [List.getElem?_set] at h
      by_cases e2 : i = m
      · subst e2
        rw [if_pos rfl] at h
        split at h
        · cases h
          exact ⟨xs, e⟩
        · cases h
      · rw [if_neg e2] at h
        exact ⟨zs, h⟩
    obtain ⟨w1, g1⟩ := back j zs q1
    obtain ⟨w2, g2⟩ := back k ws q2
    exact st.st.un j k q w1 w2 g1 g2
  · have h3 := st.k b o q hn
    by_cases hb : b = p
    · subst hb
      rcases st.o b ⟨i, xs, e⟩ with z | z
      · exact absurd z hn
      · rw [q] at z
        cases z
    · rw [upd_ne hb]
      exact h3
  · by_cases hb : b = p
    · subst hb
      rw [upd_same] at q
      cases q
    · rw [upd_ne hb] at q
      exact st.t b q
  · rcases own_set h with z | ⟨zs, z⟩
    · exact st.o q z
    · cases z
      exact st.o _ ⟨i, xs, e⟩
theorem tyV_list {p : Addr} {xs : List V} (h : H p = some (.lst xs)) : tyV K "list" (.ref p) H := .inl ⟨rfl, _, SqL.of h⟩
theorem sims_app {i : Nat} (h : Sim K te a) : SimS K (tDrop (tBM K "list" rAppend (tVar i) (tCons te tNil))) (aApp i a) := fun A s q σ F H ok E kn kr kb kc => by
  unfold aApp at q
  cases e : s[i]? with
  | none =>
    rw [e] at q
    exact q.elim
  | some l =>
    rw [e] at q
    cases l with
    | no => exact q.elim
    | pu d => exact q.elim
    | ow p0 xs0 =>
      obtain ⟨o, h1, h2⟩ := ok.get e
      obtain ⟨rfl, g1, vs0, g2, g3⟩ := h2
      refine ⟨.ref p0, h1, tyV_list g2, ?_⟩
      refine h.d q ok fun r s1 v F1 H1 q1 st1 d1 => ?_
      cases e2 : s1[i]? with
      | none =>
        rw [e2] at q1
        exact q1.elim
      | some l =>
        rw [e2] at q1
        cases l with
        | no => exact q1.elim
        | pu d => exact q1.elim
        | ow p xs =>
          obtain ⟨q1, q2⟩ := q1
          obtain ⟨o, z1, z2⟩ := st1.st.get e2
          obtain ⟨z3, y1, vs, y2, y3⟩ := z2
          rw [h1] at z1
          cases z1
          cases z3
          refine ⟨_, vs, v, rfl, rfl, y2, by rw [y3.length]; exact sz_lt q1, ?_⟩
          exact kn _ σ F1 _ q2 (st1.chg e2 (y3.append ⟨v, [], rfl, d1, rfl⟩))
/-- x[k] = e -/
def aPut (i : Nat) (a b : AE) : AS := fun A s => a s fun r s1 => match s1[i]? with
  | some (.ow _ _) => b s1 fun rk s2 => match rk.d, s2[i]? with
    | .int k, some (.ow p xs) => match ixN xs.length k with
      | some j => A.nx (s2.set i (.ow p (xs.set j r.d)))
      | none => False
    | _, _ => False
  | _ => False
theorem sims_put {i : Nat} (ha : Sim K ta aa) (hb : Sim K tb ab) : SimS K (tAsg ta (gSub (tVar i) tb rSetL)) (aPut i aa ab) := fun A s q σ F H ok E kn kr kb kc => by
  refine ha.d q ok fun r s1 v F1 H1 q1 st1 d1 => ?_
  cases e : s1[i]? with
  | none =>
    rw [e] at q1
    exact q1.elim
  | some l =>
    rw [e] at q1
    cases l with
    | no => exact q1.elim
    | pu d => exact q1.elim
    | ow p0 xs0 =>
      obtain ⟨o, h1, h2⟩ := st1.st.get e
      obtain ⟨rfl, g1, vs0, g2, g3⟩ := h2
      refine ⟨.ref p0, h1, ?_⟩
      refine hb.d q1 st1.st fun rk s2 w F2 H2 q2 st2 d2 => ?_
      cases e3 : rk.d <;> simp only [e3] at q2
      rename_i k
      cases e2 : s2[i]? with
      | none =>
        simp only [e2] at q2
      | some l =>
        simp only [e2] at q2
        cases l with
        | no => exact q2.elim
        | pu d => exact q2.elim
        | ow p xs =>
          simp only at q2
          cases e4 : ixN xs.length k with
          | none =>
            simp only [e4] at q2
          | some j =>
            simp only [e4] at q2
            rw [e3] at d2
            obtain ⟨o, z1, z2⟩ := st2.st.get e2
            obtain ⟨z3, y1, vs, y2, y3⟩ := z2
            rw [h1] at z1
            cases z1
            cases z3
            refine ⟨_, vs, k, j, rfl, d2, y2, by rw [y3.length]; exact e4, ?_⟩
            exact kn _ σ F2 _ q2 ((st1.trans st2).chg e2 (y3.set (Dq.mono st2.f _ _ d1)))
/-- x[k], len(x) of a list that a slot owns -/
def aIxO (i : Nat) (b : AE) : AE := fun s P => match s[i]? with
  | some (.ow _ _) => b s fun rk s1 => match rk.d, s1[i]? with
    | .int k, some (.ow _ xs) => match atI xs k with
      | some d => P (.pu d) s1
      | none => False
    | _, _ => False
  | _ => False
theorem sim_ixO {i : Nat} (hb : Sim K tb ab) : Sim K (tOp (fun x y H Q => rIxL K x y H Q ∨ rIxT K x y H Q ∨ rIxS x y H Q) (tVar i) tb) (aIxO i ab) := fun s P q σ F H ok Q k => by
  unfold aIxO at q
  cases e : s[i]? with
  | none =>
    rw [e] at q
    exact q.elim
  | some l =>
    rw [e] at q
    cases l with
    | no => exact q.elim
    | pu d => exact q.elim
    | ow p0 xs0 =>
      obtain ⟨o, h1, h2⟩ := ok.get e
      obtain ⟨rfl, g1, vs0, g2, g3⟩ := h2
      refine ⟨.ref p0, h1, ?_⟩
      refine hb.d q ok fun rk s2 w F2 H2 q2 st2 d2 => ?_
      cases e3 : rk.d <;> simp only [e3] at q2
      rename_i j
      cases e2 : s2[i]? with
      | none =>
        simp only [e2] at q2
      | some l =>
        simp only [e2] at q2
        cases l with
        | no => exact q2.elim
        | pu d => exact q2.elim
        | ow p xs =>
          simp only at q2
          cases e4 : atI xs j with
          | none =>
            simp only [e4] at q2
          | some d =>
            simp only [e4] at q2
            rw [e3] at d2
            obtain ⟨o, z1, z2⟩ := st2.st.get e2
            obtain ⟨z3, y1, vs, y2, y3⟩ := z2
            rw [h1] at z1
            cases z1
            cases z3
            obtain ⟨x, x1, x2⟩ := atI_ok y3 e4
            exact .inl ⟨_, vs, j, x, rfl, d2, SqL.of y2, x1, k _ s2 x F2 H2 q2 st2 (.pu x2)⟩
/-- a reading of a slot's list that leaves it as it is: r takes it as a value and hands back what holds no object -/
def aBor (r : ARC) (i : Nat) : AE := fun s P => match s[i]? with
  | some (.ow _ xs) => r [.lst xs] fun rs => ∃ d, rs = .pu d ∧ (flatD d = true) ∧ P (.pu d) s
  | _ => False
theorem flat_any {F F' : Hp} {d : D} {v : V} (h : flatD d = true) (q : Dq K F d v) : Dq K F' d v := by
  cases d <;> first | (cases h; done) | exact q
/-! ### while -/
def aWhile (c : AT) (b : AS) : AS := fun A s => ∃ W : Nat → Ss → Prop, (∃ m, W m s) ∧ ∀ m s, W m s → c s fun k s1 =>
  if k = true then b { nx := fun s' => ∃ m', m' < m ∧ W m' s', rt := A.rt, bk := A.nx, ct := fun s' => ∃ m', m' < m ∧ W m' s' } s1 else A.nx s1
theorem sims_while (h : SimT K c ac1) (hb : SimS K ts as) : SimS K (tWhile c ts) (aWhile ac1 as) := fun A s q σ F H ok E kn kr kb kc => by
  obtain ⟨W, ⟨m0, w0⟩, turn⟩ := q
  refine ⟨fun m σ' H' => ∃ s' F', W m s' ∧ Step K s F H s' F' H' σ', ⟨m0, s, F, w0, .refl ok⟩, fun m σ1 H1 ⟨s1, F1, w1, st1⟩ => ?_⟩
  refine h s1 _ (turn m s1 w1) σ1 F1 H1 st1.st _ fun b s2 F2 H2 q2 st2 => ?_
  cases b with
  | false => exact kn s2 σ1 F2 H2 q2 (st1.trans st2)
  | true =>
    refine ⟨fun σ' H' => ∃ m', m' < m ∧ ∃ s' F', W m' s' ∧ Step K s F H s' F' H' σ', fun _ _ z => z, ?_⟩
    have st12 := st1.trans st2
    refine hb _ s2 q2 σ1 F2 H2 st2.st _ (fun s3 σ3 F3 H3 ⟨m', l, w3⟩ st3 => ⟨m', l, s3, F3, w3, st12.trans st3⟩) (fun r s3 σ3 v F3 H3 q3 st3 rs => kr r s3 σ3 v F3 H3 q3 (st12.trans st3) (rs.more st12))
      (fun s3 σ3 F3 H3 q3 st3 => kn s3 σ3 F3 H3 q3 (st12.trans st3)) (fun s3 σ3 F3 H3 ⟨m', l, w3⟩ st3 => ⟨m', l, s3, F3, w3, st12.trans st3⟩)
/-! ### what is walked -/
def aItL (a : AE) : AI := fun s P => a s fun r s1 => match r.d with
  | .lst ds => P ds s1
  | .scr ds => P ds s1
  | _ => False
def aItT (a : AE) : AI := fun s P => a s fun r s1 => match r.d with
  | .tup ds => P ds s1
  | _ => False
theorem simi_list (h : Sim K te a) : SimI K (iList K te) (aItL a) := fun s P q σ F H ok R k => by
  refine h.d q ok fun r s1 v F1 H1 q1 st1 d1 => ?_
  have go : ∀ a xs ds, SqL K F1 a xs → DqA K F1 ds xs → v = .ref a → P ds s1 → ∃ a, v = .ref a ∧ (∃ xs, SqL K H1 a xs) ∧ R (Itl K a) H1 := fun a xs ds h1 h2 ev q2 => by
    refine ⟨a, ev, ⟨xs, Same.seq st1.st.le h1⟩, k ds s1 _ F1 H1 q2 st1 ⟨fun H => SqL K H a xs, YAt xs, ?_, fun H2 e => Same.seq e h1, fun i H2 x H3 e y d hd F2 e1 e2 => ?_⟩⟩
    · rw [← h2.length]
      exact walk_list
    · obtain ⟨rfl, hx⟩ := y
      obtain ⟨x2, g1, g2⟩ := h2.get hd
      rw [hx] at g1
      cases g1
      exact ⟨F2, Lf.same e2 _ _ (Dq.mono e1 _ _ g2)⟩
  cases e : r.d <;> simp only [e] at q1
  · rw [e] at d1
    obtain ⟨a, xs, ev, h1, h2⟩ := d1
    exact go a xs _ (SqL.of h1) h2 ev q1
  · rw [e] at d1
    obtain ⟨a, xs, ev, h1, h2⟩ := d1
    exact go a xs _ h1 h2 ev q1
theorem simi_tup (h : Sim K te a) : SimI K (iTup K te) (aItT a) := fun s P q σ F H ok R k => by
  refine h.d q ok fun r s1 v F1 H1 q1 st1 d1 => ?_
  cases e : r.d <;> simp only [e] at q1
  rw [e] at d1
  obtain ⟨a, xs, ev, h1, h2⟩ := d1
  refine ⟨a, ev, ⟨xs, Same.sqt st1.st.le h1⟩, k _ s1 _ F1 H1 q1 st1 ⟨fun H => SqT K H a xs, YAt xs, ?_, fun H2 e => Same.sqt e h1, fun i H2 x H3 e y d hd F2 e1 e2 => ?_⟩⟩
  · rw [← h2.length]
    exact walk_tup
  · obtain ⟨rfl, hx⟩ := y
    obtain ⟨x2, g1, g2⟩ := h2.get hd
    rw [hx] at g1
    cases g1
    exact ⟨F2, Lf.same e2 _ _ (Dq.mono e1 _ _ g2)⟩
def rngD (lo : Int) (n : Nat) : List D := (List.range n).map fun (i : Nat) => D.int (lo + (i : Int))
def aRng1 (a : AA) : AI := fun s P => a s fun ds s1 => match ds with
  | [.int j] => -(2 ^ 62) ≤ j ∧ j < 2 ^ 62 ∧ P (rngD 0 j.toNat) s1
  | _ => False
def aRng2 (a : AA) : AI := fun s P => a s fun ds s1 => match ds with
  | [.int i, .int j] => (-(2 ^ 62) ≤ i ∧ i < 2 ^ 62 ∧ -(2 ^ 62) ≤ j ∧ j < 2 ^ 62) ∧ P (rngD i (j - i).toNat) s1
  | _ => False
theorem rng_yields {lo : Int} {n : Nat} {F1 : Hp} : Yields K (Itr lo n) F1 (rngD lo n) := by
  refine ⟨fun _ => True, YFn fun i => .int (lo + i), ?_, fun _ _ => trivial, fun i H2 x H3 e y d hd F2 e1 e2 => ?_⟩
  · have e : (rngD lo n).length = n := by
      unfold rngD
      rw [List.length_map, List.length_range]
    rw [e]
    exact walk_range
  · obtain ⟨rfl, rfl⟩ := y
    unfold rngD at hd
    rw [List.getElem?_map] at hd
    cases e3 : (List.range n)[i]? with
    | none =>
      rw [e3] at hd
      cases hd
    | some j =>
      rw [e3] at hd
      obtain ⟨hi, hj⟩ := List.getElem?_eq_some_iff.mp e3
      rw [List.getElem_range] at hj
      cases hd
      subst hj
      exact ⟨F2, Lf.same e2 _ _ rfl⟩
theorem dqa1 {F : Hp} {d : D} {vs : List V} (h : DqA K F [d] vs) : ∃ v, vs = [v] ∧ Dq K F d v := by
  obtain ⟨x, r, rfl, h2, h3⟩ := h
  exact ⟨x, by rw [show r = [] from h3], h2⟩
theorem dqa2 {F : Hp} {d e : D} {vs : List V} (h : DqA K F [d, e] vs) : ∃ v w, vs = [v, w] ∧ Dq K F d v ∧ Dq K F e w := by
  obtain ⟨x, r, rfl, h2, h3⟩ := h
  obtain ⟨y, rfl, h4⟩ := dqa1 h3
  exact ⟨x, y, rfl, h2, h4⟩
theorem simi_rng1 {t : TA} {a : AA} (h : SimA K t a) : SimI K (iRng1 t) (aRng1 a) := fun s P q σ F H ok R k => by
  refine h s _ q σ F H ok _ fun ds s1 vs F1 H1 q1 st1 d1 => ?_
  match ds, q1, d1 with
  | [.int j], q1, d1 =>
    obtain ⟨v, rfl, h2⟩ := dqa1 d1
    cases (show v = _ from h2)
    exact ⟨j, rfl, q1.1, q1.2.1, k _ s1 _ F1 H1 q1.2.2 st1 rng_yields⟩
theorem simi_rng2 {t : TA} {a : AA} (h : SimA K t a) : SimI K (iRng2 t) (aRng2 a) := fun s P q σ F H ok R k => by
  refine h s _ q σ F H ok _ fun ds s1 vs F1 H1 q1 st1 d1 => ?_
  match ds, q1, d1 with
  | [.int i, .int j], q1, d1 =>
    obtain ⟨v, w, rfl, h2, h3⟩ := dqa2 d1
    cases (show v = _ from h2)
    cases (show w = _ from h3)
    exact ⟨i, j, rfl, q1.1, k _ s1 _ F1 H1 q1.2 st1 rng_yields⟩
/-! ### for -/
def aForD (g : AG) (b : AS) (A : AEnds) : List D → Ss → Prop
  | [], s => A.nx s
  | d :: ds, s => g d s fun s1 => b { nx := aForD g b A ds, rt := A.rt, bk := A.nx, ct := aForD g b A ds } s1
def aFor (i : AI) (g : AG) (b : AS) : AS := fun A s => i s fun ds s1 => aForD g b A ds s1
theorem sims_for {wi : TI} {ai : AI} {g : TG} {ag : AG} {L : List Nat} (hi : SimI K wi ai) (hg : SimG K g ag L) (hb : SimS K ts as) : SimS K (tFor wi g ts) (aFor ai ag as) := fun A s q σ F H ok E kn kr kb kc => by
  refine hi s _ q σ F H ok _ fun ds s1 J F1 H1 q1 st1 hy => ?_
  obtain ⟨G, Y, w, hG, hY⟩ := hy
  refine for_it w (fun i σ' H' => ∃ s' F', aForD ag as A (ds.drop i) s' ∧ Step K s F H s' F' H' σ' ∧ Same F1 F') ⟨s1, F1, by rw [List.drop_zero]; exact q1, st1, Same.refl _⟩ (fun i σ' H' hi ⟨s', F', _, st, sm⟩ => hG H' (sm.trans st.st.le)) ?_ ?_
  · rintro i x σ' H' H2 hi ⟨s', F', qq, st, sm⟩ y
    have ed : ds.drop i = ds[i] :: ds.drop (i + 1) := List.drop_eq_getElem_cons hi
    rw [ed] at qq
    obtain ⟨F2, l⟩ := hY i H' x H2 (sm.trans st.st.le) y ds[i] (List.getElem?_eq_getElem hi) F' sm st.st.le
    obtain ⟨st2, rs2⟩ := st.leaf l
    obtain ⟨w2, e1, e2⟩ := rs2.ok
    cases e1
    refine hg _ s' _ qq x σ' F2 H2 st2.st e2 _ fun s3 σ3 q3 st3 _ _ => ?_
    have st23 := st2.trans st3
    refine hb _ s3 q3 σ3 F2 H2 st3.st _ (fun s4 σ4 F4 H4 q4 st4 => ⟨s4, F4, q4, st23.trans st4, (sm.trans l.f).trans st4.f⟩) (fun r s4 σ4 v F4 H4 q4 st4 rs => kr r s4 σ4 v F4 H4 q4 (st23.trans st4) (rs.more st23))
      (fun s4 σ4 F4 H4 q4 st4 => kn s4 σ4 F4 H4 q4 (st23.trans st4)) (fun s4 σ4 F4 H4 q4 st4 => ⟨s4, F4, q4, st23.trans st4, (sm.trans l.f).trans st4.f⟩)
  · rintro σ' H' ⟨s', F', qq, st, _⟩
    rw [List.drop_length] at qq
    exact kn s' σ' F' H' qq st
end
end DL

namespace DL
open PySem L2

section
variable {K : PySem.W.Frag} {te ta tb tc : TE} {a aa ab ac : AE} {F H : Hp} {s : Ss} {σ : L2.St} {ts tu : TS} {as au : AS} {c : TT} {ac1 : AT}
/-! ### comprehensions -/
def wipeS (s : Ss) : List Nat → Ss
  | [] => s
  | v :: vs => (wipeS s vs).set v .no
theorem wipeS_len (s : Ss) : ∀ vs, (wipeS s vs).length = s.length
  | [] => rfl
  | v :: vs => by
    show ((wipeS s vs).set v .no).length = s.length
    rw [List.length_set, wipeS_len s vs]
theorem wipeS_in {s : Ss} {i : Nat} {l : Sl} : ∀ {vs : List Nat}, (wipeS s vs)[i]? = some l → (i ∈ vs → l = .no) ∧ (i ∉ vs → s[i]? = some l)
  | [], h => by
    refine ⟨fun z => ?_, fun _ => h⟩
    cases z
  | v :: vs, h => by
    have h2 : ((wipeS s vs).set v .no)[i]? = some l := h
    rw [List.getElem?_set] at h2
    by_cases e : v = i
    · subst e
      rw [if_pos rfl] at h2
      split at h2
      · cases h2
        exact ⟨fun _ => rfl, fun z => absurd (List.mem_cons_self) z⟩
      · cases h2
    · rw [if_neg e] at h2
      obtain ⟨g1, g2⟩ := wipeS_in h2
      refine ⟨fun z => ?_, fun z => g2 fun y => z (List.mem_cons_of_mem _ y)⟩
      rcases List.mem_cons.mp z with y | y
      · exact absurd y.symm e
      · exact g1 y
theorem wipe_in {σ : L2.St} {i : Nat} : ∀ {vs : List Nat}, i ∈ vs → i < σ.length → (wipe σ vs)[i]? = some none
  | [], h, _ => by cases h
  | v :: vs, h, hl => by
    show ((wipe σ vs).set v none)[i]? = some none
    rw [List.getElem?_set]
    by_cases e : v = i
    · rw [if_pos e, if_pos (by rw [wipe_length, e]; exact hl)]
    · rw [if_neg e]
      rcases List.mem_cons.mp h with y | y
      · exact absurd y.symm e
      · exact wipe_in y hl
theorem own_wipe {s : Ss} {vs : List Nat} {p : Addr} (h : Own (wipeS s vs) p) : Own s p := by
  obtain ⟨i, xs, e⟩ := h
  obtain ⟨g1, g2⟩ := wipeS_in e
  by_cases hi : i ∈ vs
  · cases g1 hi
  · exact ⟨i, xs, g2 hi⟩
/-- the slots vs are empty -/
def Wiped (s : Ss) (vs : List Nat) : Prop := ∀ i l, i ∈ vs → s[i]? = some l → l = .no
theorem wiped_wipe (s : Ss) (vs : List Nat) : Wiped (wipeS s vs) vs := fun i l hi e => (wipeS_in e).1 hi
theorem StOk.into {vs : List Nat} (ok : StOk K F H σ s) (w : Wiped s vs) : StOk K F H (wipe σ vs) s where
  le := ok.le
  len := by rw [wipe_length, ok.len]
  ok := fun i l o h1 h2 => by
    by_cases hi : i ∈ vs
    · rw [w i l hi h1]
      trivial
    · rw [wipe_out hi] at h2
      exact ok.ok i l o h1 h2
  un := ok.un
theorem StOk.outof {vs : List Nat} {σ2 : L2.St} (ok : StOk K F H σ2 s) (hl : σ2.length = σ.length) (e : ∀ j, j ∉ vs → σ2[j]? = σ[j]?) : StOk K F H σ (wipeS s vs) where
  le := ok.le
  len := by rw [wipeS_len, ← hl, ok.len]
  ok := fun i l o h1 h2 => by
    obtain ⟨g1, g2⟩ := wipeS_in h1
    by_cases hi : i ∈ vs
    · rw [g1 hi]
      trivial
    · exact ok.ok i l o (g2 hi) (by rw [e i hi]; exact h2)
  un := fun i j p xs ys h1 h2 => by
    obtain ⟨g1, g2⟩ := wipeS_in h1
    obtain ⟨k1, k2⟩ := wipeS_in h2
    by_cases hi : i ∈ vs
    · cases g1 hi
    · by_cases hj : j ∈ vs
      · cases k1 hj
      · exact ok.un i j p xs ys (g2 hi) (k2 hj)
theorem Step.outof {vs : List Nat} {σ2 : L2.St} {s2 : Ss} {F2 H2 : Hp} (st : Step K s F H s2 F2 H2 σ2) (hl : σ2.length = σ.length) (e : ∀ j, j ∉ vs → σ2[j]? = σ[j]?) : Step K s F H (wipeS s2 vs) F2 H2 σ :=
  ⟨st.st.outof hl e, st.f, st.k, st.t, st.n, fun p h => st.o p (own_wipe h)⟩
theorem wipe_eq {σ2 : L2.St} {vs : List Nat} (hl : σ2.length = (wipe σ vs).length) (e : ∀ j, j ∉ vs → σ2[j]? = (wipe σ vs)[j]?) : wipe σ2 vs = wipe σ vs := by
  rw [wipe_length] at hl
  refine List.ext_getElem? fun i => ?_
  by_cases hi : i ∈ vs
  · by_cases hk : i < σ.length
    · rw [wipe_in hi hk, wipe_in hi (by rw [hl]; exact hk)]
    · rw [List.getElem?_eq_none (by rw [wipe_length]; omega), List.getElem?_eq_none (by rw [wipe_length]; omega)]
  · rw [wipe_out hi, e i hi]
def aLcD (g : AG) (t : AT) (e : AE) (vs : List Nat) : List D → Ss → List D → (List D → Ss → Prop) → Prop
  | [], s, acc, P => P acc s
  | d :: ds, s, acc, P => g d s fun s1 => t s1 fun b s2 => if b = true then e s2 fun r s3 => acc.length < 100000 ∧ aLcD g t e vs ds (wipeS s3 vs) (acc ++ [r.d]) P else aLcD g t e vs ds (wipeS s2 vs) acc P
def aLc (i : AI) (g : AG) (t : AT) (e : AE) (vs : List Nat) : AE := fun s P => i s fun ds s1 => ∀ p, aLcD g t e vs ds (wipeS s1 vs) [] fun acc s2 => P (.ow p acc) s2
/-- what stands of a comprehension between two turns -/
structure LcAt (K : PySem.W.Frag) (s : Ss) (F H : Hp) (σ : L2.St) (p : Addr) (F1 : Hp) (vs : List Nat) (s' : Ss) (F' H' : Hp) (acc : List D) : Prop where
  st : Step K s F H s' F' H' σ
  f : Same F1 F'
  pf : F' p = none
  po : ¬ Own s' p
  pl : ∃ us, H' p = some (.lst us) ∧ DqA K F' acc us
  w : Wiped s' vs
theorem LcAt.next {p : Addr} {F1 : Hp} {vs : List Nat} {s' s2 : Ss} {F' H' F2 H2 : Hp} {acc : List D} {σ2 : L2.St} (hp : H p = none) (x : LcAt K s F H σ p F1 vs s' F' H' acc) (st : Step K s' F' H' s2 F2 H2 σ2) (hl : σ2.length = σ.length) (e : ∀ j, j ∉ vs → σ2[j]? = σ[j]?) :
    LcAt K s F H σ p F1 vs (wipeS s2 vs) F2 H2 acc ∧ ∀ acc' us, DqA K F2 acc' us → LcAt K s F H σ p F1 vs (wipeS s2 vs) F2 (upd H2 p (.lst us)) acc' := by
  obtain ⟨us, g1, g2⟩ := x.pl
  have q1 : H2 p = some (.lst us) := st.k p _ g1 x.po
  have q2 : F2 p = none := by
    cases z : F2 p with
    | none => rfl
    | some o =>
      rcases st.n p (by rw [z]; intro y; cases y) with y | y | y
      · exact absurd x.pf y
      · rw [g1] at y
        cases y
      · exact absurd y x.po
  have q3 : ¬ Own (wipeS s2 vs) p := fun z => by
    rcases st.o p (own_wipe z) with y | y
    · exact x.po y
    · rw [g1] at y
      cases y
  have st2 : Step K s F H (wipeS s2 vs) F2 H2 σ := x.st.trans (st.outof hl e)
  refine ⟨⟨st2, x.f.trans st.f, q2, q3, ⟨us, q1, DqA.mono st.f _ _ g2⟩, wiped_wipe _ _⟩, fun acc' us' hd => ⟨⟨⟨fun b o q => ?_, st2.st.len, fun i l o z1 z2 => ?_, st2.st.un⟩, st2.f, fun b o q hn => ?_, fun b q => ?_, st2.n, st2.o⟩, x.f.trans st.f, q2, q3, ⟨us', upd_same, hd⟩, wiped_wipe _ _⟩⟩
  · rw [upd_ne (ne_of_none q q2)]
    exact st2.st.le b o q
  · refine (st2.st.ok i l o z1 z2).mono (Same.refl _) fun q ys e3 ws w1 w2 => ⟨w1, ?_⟩
    have hq : q ≠ p := fun z => q3 ⟨i, ys, by rw [z1, e3, z]⟩
    rw [upd_ne hq]
    exact w2
  · rw [upd_ne (ne_of_none q hp)]
    exact st2.k b o q hn
  · by_cases hb : b = p
    · subst hb
      exact hp
    · rw [upd_ne hb] at q
      exact st2.t b q
theorem sim_lc {wi : TI} {ai : AI} {g : TG} {ag : AG} {L : List Nat} {vs : List Nat} (hi : SimI K wi ai) (hg : SimG K g ag L) (hL : ∀ j, j ∈ L → j ∈ vs) (ht : SimT K c ac1) (he : Sim K te a) : Sim K (tLc wi g c te vs) (aLc ai ag ac1 a vs) := fun s P q σ F H ok Q k => by
  refine hi s _ q σ F H ok _ fun ds s1 J F1 H1 q1 st1 hy p hp => ?_
  obtain ⟨G, Y, w, hG, hY⟩ := hy
  have hp0 : H p = none := st1.t p hp
  have no1 : ¬ Own s1 p := fun z => by
    obtain ⟨_, us, e⟩ := st1.st.own z
    rw [hp] at e
    cases e
  have f1 : F1 p = none := st1.st.le.free hp
  have start : LcAt K s F H σ p F1 vs (wipeS s1 vs) F1 (upd H1 p (.lst [])) [] := by
    have st2 : Step K s F H (wipeS s1 vs) F1 H1 σ := ⟨st1.st.outof rfl fun _ _ => rfl, st1.f, st1.k, st1.t, st1.n, fun p h => st1.o p (own_wipe h)⟩
    obtain ⟨st3, _⟩ := st2.leaf (Lf.newL (xs := []) st2.st.le hp rfl)
    exact ⟨st3, Same.refl _, f1, fun z => no1 (own_wipe z), ⟨[], upd_same, rfl⟩, wiped_wipe _ _⟩
  refine lc_it w (fun i H' => ∃ s' F' acc, aLcD ag ac1 a vs (ds.drop i) s' acc (fun acc s2 => P (.ow p acc) s2) ∧ LcAt K s F H σ p F1 vs s' F' H' acc) ⟨wipeS s1 vs, F1, [], by rw [List.drop_zero]; exact q1 p, start⟩ (fun i H' hi ⟨s', F', acc, _, x⟩ => hG H' (x.f.trans x.st.st.le)) ?_ ?_
  · rintro i v H' H2 hi ⟨s', F', acc, qq, x⟩ y
    have ed : ds.drop i = ds[i] :: ds.drop (i + 1) := List.drop_eq_getElem_cons hi
    rw [ed] at qq
    obtain ⟨F2, l⟩ := hY i H' v H2 (x.f.trans x.st.st.le) y ds[i] (List.getElem?_eq_getElem hi) F' x.f x.st.st.le
    obtain ⟨stl, rsl⟩ := (Step.refl (x.st.st.into x.w)).leaf l
    obtain ⟨w2, e1, e2⟩ := rsl.ok
    cases e1
    refine hg _ s' _ qq v (wipe σ vs) F2 H2 stl.st e2 _ fun s3 σ3 q3 st3 e3 l3 => ⟨wipe_eq l3 fun j hj => e3 j fun z => hj (hL j z), ?_⟩
    have st23 := stl.trans st3
    have hlen : σ3.length = σ.length := by rw [l3, wipe_length]
    have hout : ∀ j, j ∉ vs → σ3[j]? = σ[j]? := fun j hj => by rw [e3 j fun z => hj (hL j z), wipe_out hj]
    refine ht s3 _ q3 σ3 F2 H2 st3.st _ fun b s4 F4 H4 q4 st4 => ?_
    cases b with
    | false =>
      obtain ⟨x2, _⟩ := x.next hp0 (st23.trans st4) hlen hout
      exact ⟨wipeS s4 vs, F4, acc, q4, x2⟩
    | true =>
      refine he.d q4 st4.st fun r s5 v5 F5 H5 q5 st5 d5 => ?_
      have stA := (st23.trans st4).trans st5
      obtain ⟨x2, x3⟩ := x.next hp0 stA hlen hout
      obtain ⟨us, g1, g2⟩ := x2.pl
      refine ⟨us, g1, by rw [g2.length]; exact sz_lt q5.1, wipeS s5 vs, F5, _, q5.2, x3 _ _ (g2.append ⟨v5, [], rfl, d5, rfl⟩)⟩
  · rintro H' ⟨s', F', acc, qq, x⟩
    rw [List.drop_length] at qq
    obtain ⟨us, g1, g2⟩ := x.pl
    exact k _ s' (.ref p) F' H' qq x.st ⟨⟨rfl, x.pf, us, g1, g2⟩, fun q xs e => by
      cases e
      exact ⟨.inl hp0, x.po⟩⟩
def aYes : AT := fun s P => P true s
theorem simt_yes : SimT K tYes aYes := fun s P q σ F H ok Q k => k true s F H q (.refl ok)

/-! ### defs -/
/-- a def that takes data alone and changes none: n parameters, S what it does -/
def spD (K : PySem.W.Frag) (n : Nat) (S : ARC) : Sp := fun vs H Q _ => ∃ F ds P, Same F H ∧ DqA K F ds vs ∧ ds.length = n ∧ S ds P ∧ ∀ rs v F' H', P rs → Lf K F H rs v F' H' → Q v H'
def aFn (n : Nat) (S : ARC) : ARC := fun ds P => ds.length = n ∧ S ds P
theorem rc_fn {n : Nat} {S : ARC} : RC K (fun vs H Q => spD K n S (vs ++ []) H Q E0) (aFn n S) := fun ds P q F H xs le dx Q k => by
  show spD K n S (xs ++ []) H Q E0
  rw [List.append_nil]
  exact ⟨F, ds, P, le, dx, q.1, q.2, k⟩
theorem sim_call {n : Nat} {S : ARC} {t : TA} {a : AA} (ha : SimA K t a) : Sim K (tCall (spD K n S) [] E0 t) (aCall (aFn n S) a) := sim_cb (r := fun vs H Q => spD K n S (vs ++ []) H Q E0) rc_fn ha
/-- a def whose first parameter is a list that it may change: what it does, from the list's items, the other arguments; to the result and the list's items -/
abbrev ARM := List D → List D → (Sl → List D → Prop) → Prop
structure Lm (K : PySem.W.Frag) (p : Addr) (F H : Hp) (r : Sl) (v : V) (xs : List D) (F' H' : Hp) : Prop where
  f : Same F F'
  h : ∀ a o, a ≠ p → H a = some o → H' a = some o
  m : ∃ us, H' p = some (.lst us) ∧ DqA K F' xs us
  le : Same F' H'
  n : ∀ a, F' a ≠ none → F a ≠ none ∨ H a = none
  ok : SlOk K F' H' r (some v)
  fr : ∀ q ys, r = .ow q ys → H q = none
def spM (K : PySem.W.Frag) (n : Nat) (S : ARM) : Sp := fun vs H Q _ => ∃ F p xs us ds ws P, vs = .ref p :: ws ∧ Same F H ∧ F p = none ∧ H p = some (.lst us) ∧ DqA K F xs us ∧ DqA K F ds ws ∧ ds.length + 1 = n ∧ S xs ds P ∧
  ∀ rs xs' v F' H', P rs xs' → Lm K p F H rs v xs' F' H' → Q v H'
def aCallM (n : Nat) (j : Nat) (S : ARM) (a : AA) : AE := fun s P => match s[j]? with
  | some (.ow _ _) => a s fun ds s1 => match s1[j]? with
    | some (.ow p xs) => ds.length + 1 = n ∧ S xs ds fun rs xs' => P rs (s1.set j (.ow p xs'))
    | _ => False
  | _ => False
theorem sim_callM {n j : Nat} {S : ARM} {t : TA} {a : AA} (ha : SimA K t a) : Sim K (tCall (spM K n S) [] E0 (tCons (tVar j) t)) (aCallM n j S a) := fun s P q σ F H ok Q k => by
  unfold aCallM at q
  cases e : s[j]? with
  | none =>
    rw [e] at q
    exact q.elim
  | some l =>
    rw [e] at q
    cases l with
    | no => exact q.elim
    | pu d => exact q.elim
    | ow p0 xs0 =>
      obtain ⟨o, h1, h2⟩ := ok.get e
      obtain ⟨rfl, _⟩ := h2
      refine ⟨.ref p0, h1, ?_⟩
      refine ha s _ q σ F H ok _ fun ds s1 ws F1 H1 q1 st1 d1 => ?_
      cases e2 : s1[j]? with
      | none =>
        rw [e2] at q1
        exact q1.elim
      | some l =>
        rw [e2] at q1
        cases l with
        | no => exact q1.elim
        | pu d => exact q1.elim
        | ow p xs =>
          obtain ⟨q2, q3⟩ := q1
          obtain ⟨o, z1, z2⟩ := st1.st.get e2
          obtain ⟨z3, y1, us, y2, y3⟩ := z2
          rw [h1] at z1
          cases z1
          cases z3
          rw [List.append_nil]
          refine ⟨F1, _, xs, us, ds, ws, _, rfl, st1.st.le, y1, y2, y3, d1, q2, q3, fun rs xs' v F2 H2 hP l => ?_⟩
          have hF : ∀ b vs, F1 b = none → H1 b = some (.lst vs) → F2 b = none := fun b vs w1 w2 => by
            cases z : F2 b with
            | none => rfl
            | some o =>
              rcases l.n b (by rw [z]; intro y; cases y) with y | y
              · exact absurd w1 y
              · rw [w2] at y
                cases y
          obtain ⟨us2, m1, m2⟩ := l.m
          have stp : Step K s1 F1 H1 (s1.set j (.ow p0 xs')) F2 H2 σ := by
            refine ⟨⟨l.le, by rw [List.length_set, st1.st.len], fun i l2 o w1 w2 => ?_, fun i m q zs ws2 w1 w2 => ?_⟩, l.f, fun b o w1 w2 => ?_, fun b w1 => ?_, fun b w1 => ?_, fun b w1 => ?_⟩
            · rw [List.getElem?_set] at w1
              by_cases e3 : j = i
              · subst e3
                rw [if_pos rfl] at w1
                split at w1
                · cases w1
                  rw [h1] at w2
                  cases w2
                  exact ⟨rfl, hF _ _ y1 y2, us2, m1, m2⟩
                · cases w1
              · rw [if_neg e3] at w1
                refine (st1.st.ok i l2 o w1 w2).mono l.f fun b ys e4 vs x1 x2 => ⟨hF _ _ x1 x2, l.h b _ (fun z => ?_) x2⟩
                subst z
                rw [e4] at w1
                exact e3 (st1.st.un j i _ _ _ e2 w1)
            · have back : ∀ (m : Nat) (zs : List D), (s1.set j (.ow p0 xs'))[m]? = some (Sl.ow q zs) → ∃ ws, s1[m]? = some (Sl.ow q ws) := fun m zs h => by
                rw [List.getElem?_set] at h
                by_cases e2' : j = m
                · subst e2'
                  rw [if_pos rfl] at h
                  split at h
                  · cases h
                    exact ⟨xs, e2⟩
                  · cases h
                · rw [if_neg e2'] at h
                  exact ⟨zs, h⟩
              obtain ⟨u1, g1⟩ := back i zs w1
              obtain ⟨u2, g2⟩ := back m ws2 w2
              exact st1.st.un i m q u1 u2 g1 g2
            · refine l.h b o (fun z => w2 ?_) w1
              rw [z]
              exact ⟨j, xs, e2⟩
            · by_cases z : b = p0
              · subst z
                rw [m1] at w1
                cases w1
              · cases z2 : H1 b with
                | none => rfl
                | some o =>
                  rw [l.h b o z z2] at w1
                  cases w1
            · rcases l.n b w1 with z | z
              · exact .inl z
              · exact .inr (.inl z)
            · rcases own_set w1 with z | ⟨zs, z⟩
              · exact .inl z
              · cases z
                exact .inl ⟨j, xs, e2⟩
          refine k rs _ v F2 H2 hP (st1.trans stp) ⟨l.ok, fun q ys e3 => ?_⟩
          have z := l.fr q ys e3
          refine ⟨.inl (st1.t q z), fun w => ?_⟩
          rcases own_set w with w | ⟨zs, w⟩
          · obtain ⟨_, vs, w2⟩ := st1.st.own w
            rw [z] at w2
            cases w2
          · cases w
            rw [z] at y2
            cases y2
def startS (N : Nat) (l : List Sl) : Ss := l ++ List.replicate (N - l.length) .no
theorem start_ok {N : List Str} {vs : List V} {ls : List Sl} (le : Same F H) (hl : vs.length = ls.length) (ok : ∀ (i : Nat) (l : Sl) (v : V), ls[i]? = some l → vs[i]? = some v → SlOk K F H l (some v))
    (un : ∀ (i j : Nat) (p : Addr) (xs ys : List D), ls[i]? = some (.ow p xs) → ls[j]? = some (.ow p ys) → i = j) : StOk K F H (L2.start N vs) (startS N.length ls) where
  le := le
  len := by
    unfold L2.start startS
    rw [List.length_append, List.length_append, List.length_map, List.length_replicate, List.length_replicate, hl]
  ok := fun i l o h1 h2 => by
    unfold L2.start at h2
    unfold startS at h1
    by_cases hi : i < ls.length
    · rw [List.getElem?_append_left hi] at h1
      rw [List.getElem?_append_left (by rw [List.length_map, hl]; exact hi), List.getElem?_map] at h2
      cases e : vs[i]? with
      | none =>
        rw [e] at h2
        cases h2
      | some v =>
        rw [e] at h2
        cases h2
        exact ok i l v h1 e
    · rw [List.getElem?_append_right (by omega), List.getElem?_replicate] at h1
      split at h1
      · cases h1
        trivial
      · cases h1
  un := fun i j p xs ys h1 h2 => by
    have back : ∀ (m : Nat) (zs : List D), (startS N.length ls)[m]? = some (Sl.ow p zs) → ls[m]? = some (Sl.ow p zs) := fun m zs h => by
      unfold startS at h
      by_cases hi : m < ls.length
      · rw [List.getElem?_append_left hi] at h
        exact h
      · rw [List.getElem?_append_right (by omega), List.getElem?_replicate] at h
        split at h <;> cases h
    exact un i j p xs ys (back i xs h1) (back j ys h2)
theorem own_start {N : Nat} {ls : List Sl} {p : Addr} (h : Own (startS N ls) p) : ∃ (i : Nat) (xs : List D), ls[i]? = some (.ow p xs) := by
  obtain ⟨i, xs, h⟩ := h
  refine ⟨i, xs, ?_⟩
  unfold startS at h
  by_cases hi : i < ls.length
  · rw [List.getElem?_append_left hi] at h
    exact h
  · rw [List.getElem?_append_right (by omega), List.getElem?_replicate] at h
    split at h <;> cases h
def endsD (P : Sl → Prop) : AEnds := ⟨fun _ => P (.pu .non), fun r _ => P r, fun _ => False, fun _ => False⟩
def endsM (P : Sl → List D → Prop) (p : Addr) : AEnds := ⟨fun s => ∃ xs, s[0]? = some (.ow p xs) ∧ P (.pu .non) xs, fun r s => ∃ xs, s[0]? = some (.ow p xs) ∧ P r xs, fun _ => False, fun _ => False⟩
end
section
variable {P : Program} {w : World} {K : PySem.W.Frag} {mg : Str → Option Value} {base : Heap}
/-- THE RULE for a def over data -/
theorem okD {x qual : Str} {st : Stmt} {f : Addr} {fd : FuncData} {N ps : List Str} {k n : Nat} {S : ARC} (Fn : Fun K x qual st f fd) (Sc : FnScope N ps (defScope st)) (hn : ps.length = n)
    (hbody : ∀ (cdv : Value) (A : Around) (outer : List Env) (s : Shared) (H : Hp) (E : XK), Room k (A.deeper (PyProof.Rows.envOfC qual (defScope st) s.heap.objs.size f cdv)) → ∃ ts as, PSs (cxOf CX0 P w K mg base N qual (defScope st) f cdv A outer s H E).nox (defBody st) ts ∧ SimS K ts as ∧
      ∀ ds Q, ds.length = n → S ds Q → as (endsD Q) (startS N.length (ds.map .pu))) : FnOk P w K mg base CX0 (k + 1) f fd ps (spD K n S) := by
  refine Fn.ok Sc (fun vs H Q E h => ?_) (fun cdv A outer s H vs Q E hr h => ?_)
  · obtain ⟨F, ds, P, _, h1, h2, _⟩ := h
    rw [h1.length, h2, hn]
  · obtain ⟨F, ds, R, le, dx, hl, hS, kq⟩ := h
    obtain ⟨ts, as, h1, h2, h3⟩ := hbody cdv A outer s H E hr
    refine ⟨ts, h1, ?_⟩
    have ok0 : StOk K F H (L2.start N vs) (startS N.length (ds.map .pu)) := by
      refine start_ok le (by rw [List.length_map, dx.length]) (fun i l v e1 e2 => ?_) fun i j p xs ys e1 e2 => ?_
      · rw [List.getElem?_map] at e1
        cases e : ds[i]? with
        | none =>
          rw [e] at e1
          cases e1
        | some d =>
          rw [e] at e1
          cases e1
          obtain ⟨v2, g1, g2⟩ := dx.get e
          rw [e2] at g1
          cases g1
          exact ⟨v, rfl, g2⟩
      · rw [List.getElem?_map] at e1
        cases e : ds[i]? with
        | none =>
          rw [e] at e1
          cases e1
        | some d =>
          rw [e] at e1
          cases e1
    have no : ∀ p, ¬ Own (startS N.length (ds.map .pu)) p := fun p z => by
      obtain ⟨i, xs, e1⟩ := own_start z
      rw [List.getElem?_map] at e1
      cases e : ds[i]? with
      | none =>
        rw [e] at e1
        cases e1
      | some d =>
        rw [e] at e1
        cases e1
    have fin : ∀ r s' v σ' F' H', R r → Step K (startS N.length (ds.map .pu)) F H s' F' H' σ' → Rs K (startS N.length (ds.map .pu)) H F' H' s' r v → Q v H' := fun r s' v σ' F' H' q st rs =>
      kq r v F' H' q ⟨st.f, fun a o e => st.k a o e (no a), st.st.le, fun a z => by
        rcases st.n a z with y | y | y
        · exact .inl y
        · exact .inr y
        · exact absurd y (no a), rs.ok, fun p xs e => by
        rcases (rs.fr p xs e).1 with y | y
        · exact y
        · exact absurd y (no p)⟩
    exact h2 _ _ (h3 ds R hl hS) (L2.start N vs) F H ok0 _ (fun s' σ' F' H' q st => fin (.pu .non) s' .non σ' F' H' q st (.pu rfl)) (fun r s' σ' v F' H' q st rs => fin r s' v σ' F' H' q st rs) (fun _ _ _ _ q _ => q.elim) (fun _ _ _ _ q _ => q.elim)
/-- THE RULE for a def whose first parameter is a list that it may change -/
theorem okM {x qual : Str} {st : Stmt} {f : Addr} {fd : FuncData} {N ps : List Str} {k n : Nat} {S : ARM} (Fn : Fun K x qual st f fd) (Sc : FnScope N ps (defScope st)) (hn : ps.length = n)
    (hbody : ∀ (cdv : Value) (A : Around) (outer : List Env) (s : Shared) (H : Hp) (E : XK), Room k (A.deeper (PyProof.Rows.envOfC qual (defScope st) s.heap.objs.size f cdv)) → ∃ ts as, PSs (cxOf CX0 P w K mg base N qual (defScope st) f cdv A outer s H E).nox (defBody st) ts ∧ SimS K ts as ∧
      ∀ xs ds Q p, ds.length + 1 = n → S xs ds Q → as (endsM Q p) (startS N.length (.ow p xs :: ds.map .pu))) : FnOk P w K mg base CX0 (k + 1) f fd ps (spM K n S) := by
  refine Fn.ok Sc (fun vs H Q E h => ?_) (fun cdv A outer s H vs Q E hr h => ?_)
  · obtain ⟨F, p, xs, us, ds, ws, P, rfl, _, _, _, _, h1, h2, _⟩ := h
    rw [List.length_cons, h1.length, h2, hn]
  · obtain ⟨F, p, xs, us, ds, ws, R, rfl, le, hF, hH, dxs, dx, hl, hS, kq⟩ := h
    obtain ⟨ts, as, h1, h2, h3⟩ := hbody cdv A outer s H E hr
    refine ⟨ts, h1, ?_⟩
    have one : ∀ (i : Nat) (q : Addr) (ys : List D), ((Sl.ow p xs) :: ds.map .pu)[i]? = some (.ow q ys) → i = 0 ∧ q = p := fun i q ys e => by
      cases i with
      | zero =>
        cases e
        exact ⟨rfl, rfl⟩
      | succ i =>
        have e1 : (ds.map Sl.pu)[i]? = some (.ow q ys) := by simpa using e
        rw [List.getElem?_map] at e1
        cases e2 : ds[i]? with
        | none =>
          rw [e2] at e1
          cases e1
        | some d =>
          rw [e2] at e1
          cases e1
    have ok0 : StOk K F H (L2.start N (.ref p :: ws)) (startS N.length (.ow p xs :: ds.map .pu)) := by
      refine start_ok le (by rw [List.length_cons, List.length_cons, List.length_map, dx.length]) (fun i l v e1 e2 => ?_) fun i j q ys zs e1 e2 => ?_
      · cases i with
        | zero =>
          cases e1
          cases e2
          exact ⟨rfl, hF, us, hH, dxs⟩
        | succ i =>
          have e1 : (ds.map Sl.pu)[i]? = some l := by simpa using e1
          have e2 : ws[i]? = some v := by simpa using e2
          rw [List.getElem?_map] at e1
          cases e : ds[i]? with
          | none =>
            rw [e] at e1
            cases e1
          | some d =>
            rw [e] at e1
            cases e1
            obtain ⟨v2, g1, g2⟩ := dx.get e
            rw [e2] at g1
            cases g1
            exact ⟨v, rfl, g2⟩
      · rw [(one i q ys e1).1, (one j q zs e2).1]
    have ow1 : ∀ q, Own (startS N.length (.ow p xs :: ds.map .pu)) q → q = p := fun q z => by
      obtain ⟨i, ys, e1⟩ := own_start z
      exact (one i q ys e1).2
    have fin : ∀ r s' v σ' F' H', (∃ ys, s'[0]? = some (.ow p ys) ∧ R r ys) → Step K (startS N.length (.ow p xs :: ds.map .pu)) F H s' F' H' σ' → Rs K (startS N.length (.ow p xs :: ds.map .pu)) H F' H' s' r v → Q v H' := fun r s' v σ' F' H' q st rs => by
      obtain ⟨ys, e0, q⟩ := q
      obtain ⟨o, _, _, g1, us2, g2, g3⟩ := st.st.get e0
      refine kq r ys v F' H' q ⟨st.f, fun a o e z => st.k a o z fun y => e (ow1 a y), ⟨us2, g2, g3⟩, st.st.le, fun a z => ?_, rs.ok, fun q ys e => ?_⟩
      · rcases st.n a z with y | y | y
        · exact .inl y
        · exact .inr y
        · have := ow1 a y
          subst this
          exact absurd g1 z
      · obtain ⟨y1, y2⟩ := rs.fr q ys e
        rcases y1 with y | y
        · exact y
        · have := ow1 q y
          subst this
          exact absurd ⟨0, _, e0⟩ y2
    exact h2 _ _ (h3 xs ds R p hl hS) (L2.start N (.ref p :: ws)) F H ok0 _ (fun s' σ' F' H' q st => fin (.pu .non) s' .non σ' F' H' q st (.pu rfl)) (fun r s' σ' v F' H' q st rs => fin r s' v σ' F' H' q st rs) (fun _ _ _ _ q _ => q.elim) (fun _ _ _ _ q _ => q.elim)
end
end DL

namespace DL
open PySem L2

section
variable {K : PySem.W.Frag} {te ta tb tc : TE} {a aa ab ac : AE} {F H : Hp} {s : Ss} {σ : L2.St}
/-! ### isinstance -/
inductive TyN where
  | int | bool | str | tuple | list
def TyN.nm : TyN → String
  | .int => "int" | .bool => "bool" | .str => "str" | .tuple => "tuple" | .list => "list"
def tyD : D → Option String
  | .non => some "NoneType" | .bl _ => some "bool" | .int _ => some "int" | .str _ => some "str" | .tup _ => some "tuple" | .lst _ => some "list" | .scr _ => some "list" | .ob _ => none
def isi : TyN → D → Option Bool
  | _, .ob _ => none
  | .int, .int _ => some true
  | .int, .bl _ => some true
  | .bool, .bl _ => some true
  | .str, .str _ => some true
  | .tuple, .tup _ => some true
  | .list, .lst _ => some true
  | .list, .scr _ => some true
  | _, _ => some false
theorem ty_ok {d : D} {x : V} (le : Same F H) (h : Dq K F d x) {b : Bool} {T : TyN} (e : isi T d = some b) : ∃ t, tyD d = some t ∧ TyX K H x (.type t) := by
  cases d with
  | non =>
    cases (show x = _ from h)
    exact ⟨_, rfl, .base .non⟩
  | bl i =>
    cases (show x = _ from h)
    exact ⟨_, rfl, .base (.bl i)⟩
  | int i =>
    cases (show x = _ from h)
    exact ⟨_, rfl, .base (.int i)⟩
  | str i =>
    cases (show x = _ from h)
    exact ⟨_, rfl, .base (.str i)⟩
  | tup ds =>
    obtain ⟨a, xs, rfl, h1, _⟩ := h
    refine ⟨_, rfl, ?_⟩
    rcases h1 with (h1 | ⟨o, h1⟩) | ⟨o, its, n, h1, h2, _⟩
    · exact .base (.tup (le _ _ h1))
    · exact .fTuple (le _ _ h1)
    · exact .kTuple h1 h2
  | lst ds =>
    obtain ⟨a, xs, rfl, h1, _⟩ := h
    exact ⟨_, rfl, .base (.lst (le _ _ h1))⟩
  | scr ds =>
    obtain ⟨a, xs, rfl, h1, _⟩ := h
    refine ⟨_, rfl, ?_⟩
    rcases h1 with (h1 | ⟨o, h1⟩) | ⟨o, its, n, h1, h2, _⟩
    · exact .base (.lst (le _ _ h1))
    · exact .base (.frz (le _ _ h1))
    · exact .kList h1 h2
  | ob f => cases T <;> cases e
theorem kit_ok {d : D} {T : TyN} {b : Bool} {t : String} (e : isi T d = some b) (h : tyD d = some t) : kitB t T.nm = some b := by
  cases d <;> cases T <;> first | (cases h; done) | (cases h; cases e; decide +kernel)
def aIsi (T : TyN) (a : AE) : AE := fun s P => a s fun r s1 => match isi T r.d with
  | some b => P (.pu (.bl b)) s1
  | none => False
theorem sim_isi {T : TyN} (h : Sim K ta aa) : Sim K (tCB (rIsi K) (tCons ta (tCons (tC (.ty T.nm)) tNil))) (aIsi T aa) := fun s P q σ F H ok Q k => by
  refine h.d q ok fun r s1 v F1 H1 q1 st1 d1 => ?_
  cases e : isi T r.d with
  | none =>
    rw [e] at q1
    exact q1.elim
  | some b =>
    rw [e] at q1
    obtain ⟨t, g1, g2⟩ := ty_ok st1.st.le d1 e
    exact ⟨v, .ty T.nm, .type t, .type T.nm, b, rfl, .ty _, g2, kit_ty (kit_ok e g1), k _ s1 _ F1 H1 q1 st1 (.pu rfl)⟩

/-! ### calls of built-ins by values -/
def rI1 (f : Int → Int) : List V → Hp → VK → Prop := fun xs H Q => ∃ i, xs = [.int i] ∧ Q (.int (f i)) H
def aI1 (f : Int → Int) : ARC := fun ds P => match ds with
  | [.int i] => P (.pu (.int (f i)))
  | _ => False
theorem rc_i1 {f : Int → Int} : RC K (rI1 f) (aI1 f) := fun ds P q F H xs le dx Q k => by
  match ds, q, dx with
  | [.int i], q, dx =>
    obtain ⟨v, rfl, h⟩ := dqa1 dx
    cases (show v = _ from h)
    exact ⟨i, rfl, k _ _ F H q (Lf.same le _ _ rfl)⟩
def rI2 (f : Int → Int → Int) : List V → Hp → VK → Prop := fun xs H Q => ∃ i j, xs = [.int i, .int j] ∧ Q (.int (f i j)) H
def aI2 (f : Int → Int → Int) : ARC := fun ds P => match ds with
  | [.int i, .int j] => P (.pu (.int (f i j)))
  | _ => False
theorem rc_i2 {f : Int → Int → Int} : RC K (rI2 f) (aI2 f) := fun ds P q F H xs le dx Q k => by
  match ds, q, dx with
  | [.int i, .int j], q, dx =>
    obtain ⟨v, w, rfl, h, h2⟩ := dqa2 dx
    cases (show v = _ from h)
    cases (show w = _ from h2)
    exact ⟨i, j, rfl, k _ _ F H q (Lf.same le _ _ rfl)⟩
/-- int(x) of an int or a bool -/
def aInt : ARC := fun ds P => match ds with
  | [.int i] => P (.pu (.int i))
  | [.bl b] => P (.pu (.int (if b then 1 else 0)))
  | _ => False
theorem rc_int : RC K (fun xs H Q => (∃ i, xs = [.int i] ∧ Q (.int i) H) ∨ ∃ k, xs = [.bl k] ∧ Q (.int (if k then 1 else 0)) H) aInt := fun ds P q F H xs le dx Q k => by
  match ds, q, dx with
  | [.int i], q, dx =>
    obtain ⟨v, rfl, h⟩ := dqa1 dx
    cases (show v = _ from h)
    exact .inl ⟨i, rfl, k _ _ F H q (Lf.same le _ _ rfl)⟩
  | [.bl i], q, dx =>
    obtain ⟨v, rfl, h⟩ := dqa1 dx
    cases (show v = _ from h)
    exact .inr ⟨i, rfl, k _ _ F H q (Lf.same le _ _ rfl)⟩
/-- len -/
def aLen : ARC := fun ds P => match ds with
  | [d] => match seqD d with
    | some xs => P (.pu (.int xs.length))
    | none => False
  | _ => False
theorem rc_len : RC K (fun xs H Q => ∃ p ys, xs = [.ref p] ∧ (SqL K H p ys ∨ SqT K H p ys) ∧ Q (.int ys.length) H) aLen := fun ds P q F H xs le dx Q k => by
  match ds, q, dx with
  | [d], q, dx =>
    obtain ⟨v, rfl, h⟩ := dqa1 dx
    unfold aLen at q
    simp only at q
    cases e : seqD d with
    | none =>
      rw [e] at q
      exact q.elim
    | some es =>
      rw [e] at q
      obtain ⟨a, ys, rfl, g1, g2⟩ := seqD_ok e h
      refine ⟨a, ys, rfl, ?_, ?_⟩
      · rcases g1 with g1 | g1
        · exact .inl (Same.seq le g1)
        · exact .inr (Same.sqt le g1)
      · rw [g2.length]
        exact k _ _ F H q (Lf.same le _ _ rfl)
/-- the ints of a list of data -/
def intsD : List D → Option (List Int)
  | [] => some []
  | .int i :: ds => (intsD ds).map (i :: ·)
  | _ => none
theorem intsD_eq : ∀ {ds : List D} {ns : List Int}, intsD ds = some ns → ds = ns.map D.int
  | [], ns, h => by
    cases h
    rfl
  | d :: ds, ns, h => by
    cases d <;> first | (cases h; done) | skip
    rename_i i
    unfold intsD at h
    cases e : intsD ds with
    | none =>
      rw [e] at h
      cases h
    | some ms =>
      rw [e] at h
      cases h
      rw [intsD_eq e]
      rfl
theorem intsD_map : ∀ ns : List Int, intsD (ns.map D.int) = some ns
  | [] => rfl
  | n :: ns => by
    show (intsD (ns.map D.int)).map (n :: ·) = _
    rw [intsD_map ns]
    rfl
def blsD : List D → Option (List Bool)
  | [] => some []
  | .bl i :: ds => (blsD ds).map (i :: ·)
  | _ => none
theorem blsD_eq : ∀ {ds : List D} {ns : List Bool}, blsD ds = some ns → ds = ns.map D.bl
  | [], ns, h => by
    cases h
    rfl
  | d :: ds, ns, h => by
    cases d <;> first | (cases h; done) | skip
    rename_i i
    unfold blsD at h
    cases e : blsD ds with
    | none =>
      rw [e] at h
      cases h
    | some ms =>
      rw [e] at h
      cases h
      rw [blsD_eq e]
      rfl
theorem blsD_map : ∀ ns : List Bool, blsD (ns.map D.bl) = some ns
  | [] => rfl
  | n :: ns => by
    show (blsD (ns.map D.bl)).map (n :: ·) = _
    rw [blsD_map ns]
    rfl
def lstD : D → Option (List D)
  | .lst xs => some xs
  | .scr xs => some xs
  | _ => none
theorem lstD_ok {d : D} {ds : List D} {x : V} (h : lstD d = some ds) (dx : Dq K F d x) : ∃ a xs, x = .ref a ∧ SqL K F a xs ∧ DqA K F ds xs := by
  cases d <;> first | (cases h; done) | skip
  · cases h
    obtain ⟨a, xs, h1, h2, h3⟩ := dx
    exact ⟨a, xs, h1, SqL.of h2, h3⟩
  · cases h
    obtain ⟨a, xs, h1, h2, h3⟩ := dx
    exact ⟨a, xs, h1, h2, h3⟩
/-- a function of a list of ints, of bools -/
def aInts (f : List Int → (D → Prop) → Prop) : ARC := fun ds P => match ds with
  | [d] => match (lstD d).bind intsD with
    | some ns => f ns fun d => P (.pu d)
    | none => False
  | _ => False
def aBls (f : List Bool → Bool) : ARC := fun ds P => match ds with
  | [d] => match (lstD d).bind blsD with
    | some ns => P (.pu (.bl (f ns)))
    | none => False
  | _ => False
theorem ints_in {ds : List D} {P : Sl → Prop} {f : List Int → (D → Prop) → Prop} {xs : List V} (le : Same F H) (q : aInts f ds P) (dx : DqA K F ds xs) : ∃ (a : Addr) (ns : List Int), xs = [V.ref a] ∧ SqL K H a (ns.map V.int) ∧ f ns fun d => P (.pu d) := by
  match ds, q, dx with
  | [d], q, dx =>
    obtain ⟨v, rfl, h⟩ := dqa1 dx
    unfold aInts at q
    simp only at q
    cases e : lstD d with
    | none =>
      rw [e] at q
      exact q.elim
    | some es =>
      rw [e] at q
      simp only [Option.bind_some] at q
      cases e2 : intsD es with
      | none =>
        rw [e2] at q
        exact q.elim
      | some ns =>
        rw [e2] at q
        obtain ⟨a, ys, rfl, g1, g2⟩ := lstD_ok e h
        rw [intsD_eq e2] at g2
        have e3 := of_dqa_ints _ _ g2
        subst e3
        exact ⟨a, ns, rfl, Same.seq le g1, q⟩
theorem bls_in {ds : List D} {P : Sl → Prop} {f : List Bool → Bool} {xs : List V} (le : Same F H) (q : aBls f ds P) (dx : DqA K F ds xs) : ∃ (a : Addr) (ns : List Bool), xs = [V.ref a] ∧ SqL K H a (ns.map V.bl) ∧ P (.pu (.bl (f ns))) := by
  match ds, q, dx with
  | [d], q, dx =>
    obtain ⟨v, rfl, h⟩ := dqa1 dx
    unfold aBls at q
    simp only at q
    cases e : lstD d with
    | none =>
      rw [e] at q
      exact q.elim
    | some es =>
      rw [e] at q
      simp only [Option.bind_some] at q
      cases e2 : blsD es with
      | none =>
        rw [e2] at q
        exact q.elim
      | some ns =>
        rw [e2] at q
        obtain ⟨a, ys, rfl, g1, g2⟩ := lstD_ok e h
        rw [blsD_eq e2] at g2
        have e3 := of_dqa_bls _ _ g2
        subst e3
        exact ⟨a, ns, rfl, Same.seq le g1, q⟩
def fSum : List Int → (D → Prop) → Prop := fun ns P => P (.int ns.sum)
def fMax : List Int → (D → Prop) → Prop := fun ns P => 0 < ns.length ∧ ∀ m, m ∈ ns → (∀ y, y ∈ ns → y ≤ m) → P (.int m)
def fMin : List Int → (D → Prop) → Prop := fun ns P => 0 < ns.length ∧ ∀ m, m ∈ ns → (∀ y, y ∈ ns → m ≤ y) → P (.int m)
theorem rc_sum : RC K (rSum K) (aInts fSum) := fun ds P q F H xs le dx Q k => by
  obtain ⟨a, ns, rfl, h1, h2⟩ := ints_in le q dx
  exact ⟨a, ns, rfl, h1, k _ _ F H h2 (Lf.same le _ _ rfl)⟩
theorem rc_max : RC K (rMax K) (aInts fMax) := fun ds P q F H xs le dx Q k => by
  obtain ⟨a, ns, rfl, h1, h2, h3⟩ := ints_in le q dx
  exact ⟨a, ns, rfl, h1, h2, fun m g1 g2 => k _ _ F H (h3 m g1 g2) (Lf.same le _ _ rfl)⟩
theorem rc_min : RC K (rMin K) (aInts fMin) := fun ds P q F H xs le dx Q k => by
  obtain ⟨a, ns, rfl, h1, h2, h3⟩ := ints_in le q dx
  exact ⟨a, ns, rfl, h1, h2, fun m g1 g2 => k _ _ F H (h3 m g1 g2) (Lf.same le _ _ rfl)⟩
theorem rc_all : RC K (rAll K) (aBls fun bs => bs.all id) := fun ds P q F H xs le dx Q k => by
  obtain ⟨a, ns, rfl, h1, h2⟩ := bls_in le q dx
  exact ⟨a, ns, rfl, h1, k _ _ F H h2 (Lf.same le _ _ rfl)⟩
theorem rc_any : RC K (rAny K) (aBls fun bs => bs.any id) := fun ds P q F H xs le dx Q k => by
  obtain ⟨a, ns, rfl, h1, h2⟩ := bls_in le q dx
  exact ⟨a, ns, rfl, h1, k _ _ F H h2 (Lf.same le _ _ rfl)⟩
/-- sum of a tuple of ints -/
def rSumT (K : PySem.W.Frag) : List V → Hp → VK → Prop := fun vs H Q => ∃ (a : Addr) (ns : List Int), vs = [V.ref a] ∧ SqT K H a (ns.map V.int) ∧ Q (.int ns.sum) H
theorem cr_sumT {X : Cx} (hc : X.calm = true) : CallR X (.builtin "sum") (rSumT X.K) := by
  intro pins s σ H vs us Q I r h
  obtain ⟨a, ns, rfl, hs, q⟩ := h
  obtain ⟨its, rv, ht, hz⟩ := I.tuple hs
  rw [Vals.ref1 r]
  have hi := rv.ints
  obtain ⟨xs, e⟩ := hi.allInts.items
  have hn : numsOf (intItems xs).toList = ns := by rw [← e]; exact hi.numsOf
  rw [nums_intItems] at hn
  rw [e] at ht
  refine PySem.W.ktm_sumG (I.ok.hd hc) ht fun h' tk t' hk => ?_
  rw [preSum_eq, List.take_of_length_le (by simp), hn]
  exact ⟨.int _, H, I.kept hk, ⟨_, rfl⟩, q⟩
def aIntsT (f : List Int → (D → Prop) → Prop) : ARC := fun ds P => match ds with
  | [.tup es] => match intsD es with
    | some ns => f ns fun d => P (.pu d)
    | none => False
  | _ => False
theorem rc_sumT : RC K (rSumT K) (aIntsT fSum) := fun ds P q F H xs le dx Q k => by
  match ds, q, dx with
  | [.tup es], q, dx =>
    obtain ⟨v, rfl, h⟩ := dqa1 dx
    unfold aIntsT at q
    simp only at q
    cases e2 : intsD es with
    | none =>
      rw [e2] at q
      exact q.elim
    | some ns =>
      rw [e2] at q
      obtain ⟨a, ys, rfl, g1, g2⟩ := h
      rw [intsD_eq e2] at g2
      have e3 := of_dqa_ints _ _ g2
      subst e3
      exact ⟨a, ns, rfl, Same.sqt le g1, k _ _ F H q (Lf.same le _ _ rfl)⟩
/-- list(x), tuple(x) -/
def aList : ARC := fun ds P => match ds with
  | [d] => match seqD d with
    | some xs => ∀ p, P (.ow p xs)
    | none => False
  | _ => False
theorem rc_list : RC K (fun xs H Q => ∃ p ys, xs = [.ref p] ∧ (SqL K H p ys ∨ SqT K H p ys) ∧ ∀ l, H l = none → Q (.ref l) (upd H l (.lst ys))) aList := fun ds P q F H xs le dx Q k => by
  match ds, q, dx with
  | [d], q, dx =>
    obtain ⟨v, rfl, h⟩ := dqa1 dx
    unfold aList at q
    simp only at q
    cases e : seqD d with
    | none =>
      rw [e] at q
      exact q.elim
    | some es =>
      rw [e] at q
      obtain ⟨a, ys, rfl, g1, g2⟩ := seqD_ok e h
      refine ⟨a, ys, rfl, ?_, fun p hp => k _ _ _ _ (q p) (Lf.newL le hp g2)⟩
      rcases g1 with g1 | g1
      · exact .inl (Same.seq le g1)
      · exact .inr (Same.sqt le g1)
def aTupl : ARC := fun ds P => match ds with
  | [d] => match seqD d with
    | some xs => P (.pu (.tup xs))
    | none => False
  | _ => False
theorem rc_tupl : RC K (fun xs H Q => ∃ p ys, xs = [.ref p] ∧ ((SqL K H p ys ∧ ∀ l, H l = none → Q (.ref l) (upd H l (.tup ys))) ∨ (SqT K H p ys ∧ Q (.ref p) H))) aTupl := fun ds P q F H xs le dx Q k => by
  match ds, q, dx with
  | [d], q, dx =>
    obtain ⟨v, rfl, h⟩ := dqa1 dx
    unfold aTupl at q
    simp only at q
    cases e : seqD d with
    | none =>
      rw [e] at q
      exact q.elim
    | some es =>
      rw [e] at q
      obtain ⟨a, ys, rfl, g1, g2⟩ := seqD_ok e h
      refine ⟨a, ys, rfl, ?_⟩
      rcases g1 with g1 | g1
      · exact .inl ⟨Same.seq le g1, fun p hp => k _ _ _ _ q (Lf.newT le hp g2)⟩
      · exact .inr ⟨Same.sqt le g1, k _ _ F H q (Lf.same le _ _ ⟨a, ys, rfl, g1, g2⟩)⟩

/-! ### slices -/
def cutD (xs : List D) (lo hi : Option Int) : List D := (xs.drop (HT.sIx xs.length 0 lo)).take (HT.sIx xs.length xs.length hi - HT.sIx xs.length 0 lo)
theorem cut_ok {ds : List D} {xs : List V} {lo hi : Option Int} (h : DqA K F ds xs) : DqA K F (cutD ds lo hi) (cutV xs lo hi) := by
  unfold cutD cutV
  rw [h.length]
  exact (h.drop _).take _
abbrev AO := Ss → (Option Int → Ss → Prop) → Prop
def SimO (K : PySem.W.Frag) (to : TO) (a : AO) : Prop := ∀ s P, a s P → ∀ σ F H, StOk K F H σ s → ∀ Q : Option Int → Hp → Prop,
  (∀ o s' F' H', P o s' → Step K s F H s' F' H' σ → Q o H') → to σ H Q
def aNoP : AO := fun s P => P none s
def aPart (a : AE) : AO := fun s P => a s fun r s1 => match r.d with
  | .int i => P (some i) s1
  | _ => False
theorem simo_no : SimO K tNoPart aNoP := fun s P q σ F H ok Q k => k none s F H q (.refl ok)
theorem simo_part (h : Sim K te a) : SimO K (tPart te) (aPart a) := fun s P q σ F H ok Q k => by
  refine h.d q ok fun r s1 v F1 H1 q1 st1 d1 => ?_
  cases e : r.d <;> simp only [e] at q1
  rename_i i
  rw [e] at d1
  exact ⟨i, d1, k (some i) s1 F1 H1 q1 st1⟩
def aSlL (a : AE) (l u : AO) : AE := fun s P => a s fun r s1 => l s1 fun lo s2 => u s2 fun hi s3 => match lstD r.d with
  | some xs => ∀ p, P (.ow p (cutD xs lo hi)) s3
  | none => False
theorem sim_slL {tl tu : TO} {al au : AO} (h : Sim K te a) (hl : SimO K tl al) (hu : SimO K tu au) : Sim K (tSl (rSlL K) te tl tu) (aSlL a al au) := fun s P q σ F H ok Q k => by
  refine h.d q ok fun r s1 v F1 H1 q1 st1 d1 => ?_
  refine hl s1 _ q1 σ F1 H1 st1.st _ fun lo s2 F2 H2 q2 st2 => ?_
  refine hu s2 _ q2 σ F2 H2 st2.st _ fun hi s3 F3 H3 q3 st3 => ?_
  cases e : lstD r.d with
  | none =>
    rw [e] at q3
    exact q3.elim
  | some es =>
    rw [e] at q3
    obtain ⟨b, ys, rfl, g1, g2⟩ := lstD_ok e d1
    have sm := st2.f.trans st3.f
    refine ⟨b, ys, rfl, Same.seq st3.st.le (Same.seq sm g1), fun p hp => ?_⟩
    obtain ⟨st4, rs4⟩ := ((st1.trans st2).trans st3).leaf (Lf.newL st3.st.le hp (cut_ok (DqA.mono sm _ _ g2)))
    exact k _ s3 _ _ _ (q3 p) st4 rs4
def aSlT (a : AE) (l u : AO) : AE := fun s P => a s fun r s1 => l s1 fun lo s2 => u s2 fun hi s3 => match r.d with
  | .tup xs => P (.pu (.tup (cutD xs lo hi))) s3
  | _ => False
theorem cutV_whole {xs : List V} {lo hi : Option Int} (h : HT.sIx xs.length 0 lo = 0 ∧ HT.sIx xs.length xs.length hi = xs.length) : cutV xs lo hi = xs := by
  unfold cutV
  rw [h.1, h.2, List.drop_zero, Nat.sub_zero, List.take_length]
theorem sim_slT {tl tu : TO} {al au : AO} (h : Sim K te a) (hl : SimO K tl al) (hu : SimO K tu au) : Sim K (tSl (rSlA K) te tl tu) (aSlT a al au) := fun s P q σ F H ok Q k => by
  refine h.d q ok fun r s1 v F1 H1 q1 st1 d1 => ?_
  refine hl s1 _ q1 σ F1 H1 st1.st _ fun lo s2 F2 H2 q2 st2 => ?_
  refine hu s2 _ q2 σ F2 H2 st2.st _ fun hi s3 F3 H3 q3 st3 => ?_
  cases e : r.d <;> simp only [e] at q3
  rename_i es
  rw [e] at d1
  obtain ⟨b, ys, rfl, g1, g2⟩ := d1
  have sm := st2.f.trans st3.f
  have g3 := DqA.mono sm _ _ g2
  refine ⟨b, ys, rfl, Same.sqt st3.st.le (Same.sqt sm g1), fun hw => ?_, fun _ p hp => ?_⟩
  · refine k _ s3 _ F3 H3 q3 ((st1.trans st2).trans st3) (.pu ⟨b, ys, rfl, Same.sqt sm g1, ?_⟩)
    have g4 := cut_ok (lo := lo) (hi := hi) g3
    rw [cutV_whole hw] at g4
    exact g4
  · obtain ⟨st4, rs4⟩ := ((st1.trans st2).trans st3).leaf (Lf.newT st3.st.le hp (cut_ok g3))
    exact k _ s3 _ _ _ q3 st4 rs4
end
end DL

namespace DL
open PySem L2

structure DE (X : Cx) (e : Expr) (t : TE) (a : AE) : Prop where
  pe : PE X e t
  sm : Sim X.K t a
structure DT (X : Cx) (e : Expr) (t : TT) (a : AT) : Prop where
  pe : PT X e t
  sm : SimT X.K t a
structure DW (X : Cx) (e : Expr) (t : TT) (a : AT) : Prop where
  pe : PW X e t
  sm : SimT X.K t a
structure DA (X : Cx) (es : List Expr) (t : TA) (a : AA) : Prop where
  pe : PA X es t
  sm : SimA X.K t a
structure DS (X : Cx) (st : Stmt) (t : TS) (a : AS) : Prop where
  pe : PS X st t
  sm : SimS X.K t a
structure DSs (X : Cx) (st : List Stmt) (t : TS) (a : AS) : Prop where
  pe : PSs X st t
  sm : SimS X.K t a
structure DG (X : Cx) (e : Expr) (t : TG) (a : AG) (L : List Nat) : Prop where
  pe : PG X e t
  sm : SimG X.K t a L
  ex : ∀ d s P, a d s P → ∃ s1, P s1
structure DGs (X : Cx) (es : List Expr) (t : TGs) (a : AGs) (L : List Nat) (n : Nat) : Prop where
  pe : PGs X es t
  sm : SimGs X.K t a L
  ex : ∀ ds s P, a ds s P → ds.length = n ∧ ∃ s1, P s1
structure DI (X : Cx) (tg it : Expr) (t : TI) (a : AI) : Prop where
  pe : PI X tg it t
  sm : SimI X.K t a
structure DO (X : Cx) (e : Option Expr) (t : TO) (a : AO) : Prop where
  pe : PO X e t
  sm : SimO X.K t a

section
variable {X : Cx} {te ta tb tc : TE} {a aa ab ac : AE} {e ea eb ec : Expr} {es : List Expr} {pos p : Pos} {t u : TT} {at1 au : AT} {ts tu : TS} {as aus : AS}
theorem d_var (i : Nat) {x : Str} (hN : X.N[i]? = some x := by rfl) (hv : Vis X.env.scope x := by first | exact Or.inl rfl | exact Or.inr (Or.inl rfl) | exact Or.inr (Or.inr rfl)) (hd : (x == ("__debug__" : Str)) = false := by decide)
    (hcd : (x == ("__classdict__" : Str)) = false := by decide) : DE X (.Name x pos) (tVar i) (aVar i) := ⟨pe_var hN hv hd hcd, sim_var⟩
theorem d_mov (i : Nat) {x : Str} (hN : X.N[i]? = some x := by rfl) (hv : Vis X.env.scope x := by first | exact Or.inl rfl | exact Or.inr (Or.inl rfl) | exact Or.inr (Or.inr rfl)) (hd : (x == ("__debug__" : Str)) = false := by decide)
    (hcd : (x == ("__classdict__" : Str)) = false := by decide) : DE X (.Name x pos) (tVar i) (aMov i) := ⟨pe_var hN hv hd hcd, sim_mov⟩
theorem d_int {i j} : DE X (.Constant (.int i) j pos) (tC (.int i)) (aC (.int i)) := ⟨pe_int, sim_c fun _ => rfl⟩
theorem d_bl {b j} : DE X (.Constant (.bool b) j pos) (tC (.bl b)) (aC (.bl b)) := ⟨pe_bl, sim_c fun _ => rfl⟩
theorem d_non {j} : DE X (.Constant .none j pos) (tC .non) (aC .non) := ⟨pe_non, sim_c fun _ => rfl⟩
theorem d_str {x j} : DE X (.Constant (.str x) j pos) (tC (.str x)) (aC (.str x)) := ⟨pe_str, sim_c fun _ => rfl⟩
/-- a constant of the module -/
def Cst (K : PySem.W.Frag) (mg : Str → Option Value) (x : Str) (d : D) : Prop := ∃ u v, mg x = some u ∧ RelV v u ∧ ∀ F, Dq K F d v
theorem d_glob {x : Str} {d : D} (c : Cst X.K X.mg x d) (hg : Gl X x := by rfl) (hd : (x == ("__debug__" : Str)) = false := by decide) : ∃ v, DE X (.Name x pos) (tC v) (aC d) := by
  obtain ⟨u, v, h1, h2, h3⟩ := c
  exact ⟨v, pe_glob hg h1 h2 hd, sim_c h3⟩
theorem d_gint {x : Str} {i : Int} (c : ∃ t, X.mg x = some (.int i t)) (hg : Gl X x := by rfl) (hd : (x == ("__debug__" : Str)) = false := by decide) : DE X (.Name x pos) (tC (.int i)) (aC (.int i)) := by
  obtain ⟨u, h1⟩ := c
  exact ⟨pe_glob hg h1 ⟨u, rfl⟩ hd, sim_c fun _ => rfl⟩
theorem d_gstr {x : Str} {i : Str} (c : ∃ t, X.mg x = some (.str i t)) (hg : Gl X x := by rfl) (hd : (x == ("__debug__" : Str)) = false := by decide) : DE X (.Name x pos) (tC (.str i)) (aC (.str i)) := by
  obtain ⟨u, h1⟩ := c
  exact ⟨pe_glob hg h1 ⟨u, rfl⟩ hd, sim_c fun _ => rfl⟩
theorem d_gtup {x : Str} {q : Addr} {xs : List V} {ds : List D} (c : X.mg x = some (.ref q)) (h : ∀ F, SqT X.K F q xs) (hd2 : ∀ F, DqA X.K F ds xs) (hg : Gl X x := by rfl) (hd : (x == ("__debug__" : Str)) = false := by decide) : DE X (.Name x pos) (tC (.ref q)) (aC (.tup ds)) :=
  ⟨pe_glob hg c rfl hd, sim_c fun F => ⟨q, xs, rfl, h F, hd2 F⟩⟩
theorem d_op {op : Operator} {r : R2} {ar : AR2} (ho : OpR X (binaryOp op) r) (hr : RD X.K r ar) (ha : DE X ea ta aa) (hb : DE X eb tb ab) : DE X (.BinOp ea op eb pos) (tOp r ta tb) (aOp ar aa ab) := ⟨pe_op ho ha.pe hb.pe, sim_op hr ha.sm hb.sm⟩
theorem d_add (ha : DE X ea ta aa) (hb : DE X eb tb ab) : DE X (.BinOp ea .Add eb pos) (tOp (rI0 fun i j => .int (i + j)) ta tb) (aOp (aI fun i j => i + j) aa ab) := d_op op_add rd_i ha hb
theorem d_sub (ha : DE X ea ta aa) (hb : DE X eb tb ab) : DE X (.BinOp ea .Sub eb pos) (tOp (rI0 fun i j => .int (i - j)) ta tb) (aOp (aI fun i j => i - j) aa ab) := d_op op_sub rd_i ha hb
theorem d_mul (ha : DE X ea ta aa) (hb : DE X eb tb ab) : DE X (.BinOp ea .Mult eb pos) (tOp (rI CMul fun i j => .int (i * j)) ta tb) (aOp (aIC CMul fun i j => i * j) aa ab) := d_op op_mul rd_ic ha hb
theorem d_mulW (ha : DE X ea ta aa) (hb : DE X eb tb ab) : DE X (.BinOp ea .Mult eb pos) (tOp (rI CMulW fun i j => .int (i * j)) ta tb) (aOp (aIC CMulW fun i j => i * j) aa ab) := d_op op_mulW rd_ic ha hb
theorem d_fdiv (ha : DE X ea ta aa) (hb : DE X eb tb ab) : DE X (.BinOp ea .FloorDiv eb pos) (tOp (rI CDiv fun i j => .int (i / j)) ta tb) (aOp (aIC CDiv fun i j => i / j) aa ab) := d_op op_fdiv rd_ic ha hb
theorem d_fdivW (ha : DE X ea ta aa) (hb : DE X eb tb ab) : DE X (.BinOp ea .FloorDiv eb pos) (tOp (rI CDivW fun i j => .int (i / j)) ta tb) (aOp (aIC CDivW fun i j => i / j) aa ab) := d_op op_fdivW rd_ic ha hb
theorem d_mod (ha : DE X ea ta aa) (hb : DE X eb tb ab) : DE X (.BinOp ea .Mod eb pos) (tOp (rI (fun _ j => 0 < j) fun i j => .int (i % j)) ta tb) (aOp (aIC (fun _ j => 0 < j) fun i j => i % j) aa ab) := d_op op_mod rd_ic ha hb
theorem d_pow (ha : DE X ea ta aa) (hb : DE X eb tb ab) : DE X (.BinOp ea .Pow eb pos) (tOp (rI CPow fun i j => .int (i ^ j.toNat)) ta tb) (aOp (aIC CPow fun i j => i ^ j.toNat) aa ab) := d_op op_pow rd_ic ha hb
def aNeg (a : AE) : AE := fun s P => a s fun r s1 => match r.d with
  | .int i => P (.pu (.int (-i))) s1
  | _ => False
theorem d_neg (ha : DE X ea ta aa) : DE X (.UnaryOp .USub ea pos) (tUn (rU fun i => .int (-i)) ta) (aNeg aa) := ⟨pe_un un_neg ha.pe, fun s P q σ F H ok Q k => by
  refine ha.sm.d q ok fun r s1 v F1 H1 q1 st1 d1 => ?_
  cases e : r.d <;> simp only [e] at q1
  rename_i i
  rw [e] at d1
  exact ⟨i, d1, k _ s1 _ F1 H1 q1 st1 (.pu rfl)⟩⟩
theorem d_cmp {op : CmpOp} {r : R2} {ar : AR2} (ho : OpR X (compareOp op) r) (hr : RD X.K r ar) (ha : DE X ea ta aa) (hb : DE X eb tb ab) (hm : behindInMarks op eb = false) : DE X (.Compare ea [op] [eb] pos) (tOp r ta tb) (aOp ar aa ab) :=
  ⟨pe_cmpR ho ha.pe hb.pe hm, sim_op hr ha.sm hb.sm⟩
theorem t_cmp {op : CmpOp} {r : R2} {ar : AR2} (ho : OpR X (compareOp op) r) (hr : RD X.K r ar) (ha : DE X ea ta aa) (hb : DE X eb tb ab) (hm : behindInMarks op eb = false) : DT X (.Compare ea [op] [eb] pos) (tTest (tOp r ta tb)) (aTest (aOp ar aa ab)) :=
  ⟨pt_cmpR ho ha.pe hb.pe hm, sim_test (sim_op hr ha.sm hb.sm)⟩
theorem d_chain {op op' : CmpOp} {r r' : R2} {ar ar' : AR2} (ho : OpR X (compareOp op) r) (hr : RD X.K r ar) (ho' : OpR X (compareOp op') r') (hr' : RD X.K r' ar') (ha : DE X ea ta aa) (hb : DE X eb tb ab) (hc : DE X ec tc ac)
    (hm : lastMarks [op, op'] [eb, ec] = false := by with_unfolding_all rfl) : DE X (.Compare ea [op, op'] [eb, ec] pos) (tChain r r' ta tb tc) (aChain ar ar' aa ab ac) := ⟨pe_chain ho ho' ha.pe hb.pe hc.pe hm, sim_chain hr hr' ha.sm hb.sm hc.sm⟩
theorem t_chain {op op' : CmpOp} {r r' : R2} {ar ar' : AR2} (ho : OpR X (compareOp op) r) (hr : RD X.K r ar) (ho' : OpR X (compareOp op') r') (hr' : RD X.K r' ar') (ha : DE X ea ta aa) (hb : DE X eb tb ab) (hc : DE X ec tc ac)
    (hm : lastMarks [op, op'] [eb, ec] = false := by with_unfolding_all rfl) : DT X (.Compare ea [op, op'] [eb, ec] pos) (tTest (tChain r r' ta tb tc)) (aTest (aChain ar ar' aa ab ac)) := ⟨pt_chain ho ho' ha.pe hb.pe hc.pe hm, sim_test (sim_chain hr hr' ha.sm hb.sm hc.sm)⟩
theorem d_in {K : PySem.W.Frag} (hK : X.K = K := by rfl) (ha : DE X ea ta aa) (hb : DE X eb tb ab) (hm : behindInMarks .In eb = false := by rfl) : DE X (.Compare ea [.In] [eb] pos) (tOp (rIn K false) ta tb) (aOp (aIn false) aa ab) := by
  subst hK
  exact d_cmp op_in_seq rd_in ha hb hm
theorem d_nin {K : PySem.W.Frag} (hK : X.K = K := by rfl) (ha : DE X ea ta aa) (hb : DE X eb tb ab) (hm : behindInMarks .NotIn eb = false := by rfl) : DE X (.Compare ea [.NotIn] [eb] pos) (tOp (rIn K true) ta tb) (aOp (aIn true) aa ab) := by
  subst hK
  exact d_cmp op_notIn_seq rd_in ha hb hm
theorem t_in {K : PySem.W.Frag} (hK : X.K = K := by rfl) (ha : DE X ea ta aa) (hb : DE X eb tb ab) (hm : behindInMarks .In eb = false := by rfl) : DT X (.Compare ea [.In] [eb] pos) (tTest (tOp (rIn K false) ta tb)) (aTest (aOp (aIn false) aa ab)) := by
  subst hK
  exact t_cmp op_in_seq rd_in ha hb hm
theorem t_nin {K : PySem.W.Frag} (hK : X.K = K := by rfl) (ha : DE X ea ta aa) (hb : DE X eb tb ab) (hm : behindInMarks .NotIn eb = false := by rfl) : DT X (.Compare ea [.NotIn] [eb] pos) (tTest (tOp (rIn K true) ta tb)) (aTest (aOp (aIn true) aa ab)) := by
  subst hK
  exact t_cmp op_notIn_seq rd_in ha hb hm
theorem t_val (h : DE X ea ta aa) (he : ∀ whole, isTrue ea X.env whole = (do let v ← whole; standAt ea.pos; holding [v] (truthy v)) := by intro _; rfl) : DT X ea (tB ta) (aTest aa) := ⟨pt_val h.pe he, sim_B h.sm⟩
theorem t_not (h : DT X ea t at1) : DT X (.UnaryOp .Not ea pos) (tNot t) (aNot at1) := ⟨pt_not h.pe, sim_not h.sm⟩
theorem w_and1 (h : DT X ea t at1) : DW X (.BoolOp .And [ea] pos) t at1 := ⟨pw_and1 h.pe, h.sm⟩
theorem w_or1 (h : DT X ea t at1) : DW X (.BoolOp .Or [ea] pos) t at1 := ⟨pw_or1 h.pe, h.sm⟩
theorem w_and (h : DT X ea t at1) (h2 : DW X (.BoolOp .And (eb :: es) pos) u au) : DW X (.BoolOp .And (ea :: eb :: es) pos) (tAnd t u) (aAnd at1 au) := ⟨pw_and h.pe h2.pe, sim_and h.sm h2.sm⟩
theorem w_or (h : DT X ea t at1) (h2 : DW X (.BoolOp .Or (eb :: es) pos) u au) : DW X (.BoolOp .Or (ea :: eb :: es) pos) (tOr t u) (aOr at1 au) := ⟨pw_or h.pe h2.pe, sim_or h.sm h2.sm⟩
theorem t_w (h : DW X ea t at1) : DT X ea t at1 := ⟨h.pe.pt, h.sm⟩
theorem d_one {op} (h : DE X ea ta aa) : DE X (.BoolOp op [ea] pos) ta aa := ⟨pe_one h.pe, h.sm⟩
theorem d_and (h : DE X ea ta aa) (h2 : DE X (.BoolOp .And (eb :: es) pos) tb ab) : DE X (.BoolOp .And (ea :: eb :: es) pos) (tAndV ta tb) (aAndV aa ab) := ⟨pe_and h.pe h2.pe, sim_andV h.sm h2.sm⟩
theorem d_or (h : DE X ea ta aa) (h2 : DE X (.BoolOp .Or (eb :: es) pos) tb ab) : DE X (.BoolOp .Or (ea :: eb :: es) pos) (tOrV ta tb) (aOrV aa ab) := ⟨pe_or h.pe h2.pe, sim_orV h.sm h2.sm⟩
theorem d_not (h : DE X ea ta aa) : DE X (.UnaryOp .Not ea pos) (tNotV ta) (aNotV aa) := ⟨pe_not h.pe, sim_notV h.sm⟩
theorem d_if (h : DT X ec t at1) (ha : DE X ea ta aa) (hb : DE X eb tb ab) : DE X (.IfExp ec ea eb pos) (tIf t ta tb) (aIf at1 aa ab) := ⟨pe_ifExp h.pe ha.pe hb.pe, sim_if h.sm ha.sm hb.sm⟩
theorem da_nil : DA X [] tNil aNil := ⟨pa_nil, sim_nil⟩
theorem da_cons {tr : TA} {ar : AA} (ha : DE X ea ta aa) (hr : DA X es tr ar) (hs : starEach (ea :: es) X.env = (false, eval ea X.env) :: starEach es X.env := by rfl) : DA X (ea :: es) (tCons ta tr) (aCons aa ar) := ⟨pa_cons ha.pe hr.pe hs, sim_cons ha.sm hr.sm⟩
theorem d_tup {x1} {tr : TA} {ar : AA} (h : DA X es tr ar) : DE X (.Tuple es x1 pos) (tTup tr) (aTup ar) := ⟨pe_tup h.pe, sim_tup h.sm⟩
theorem d_lst {tr : TA} {ar : AA} (h : DA X es tr ar) : DE X (.List es pos) (tLst tr) (aLst ar) := ⟨pe_lst h.pe, sim_lst h.sm⟩
theorem d_ix {K : PySem.W.Frag} (hK : X.K = K := by rfl) (ha : DE X ea ta aa) (hb : DE X eb tb ab) (hs : PlainIx eb := by exact fun _ _ => rfl) : DE X (.Subscript ea eb pos) (tOp (rIx K) ta tb) (aOp aIx aa ab) := by
  subst hK
  exact ⟨pe_ix ix_seq ha.pe hb.pe hs, sim_op rd_ix ha.sm hb.sm⟩
theorem d_ixO {K : PySem.W.Frag} (hK : X.K = K := by rfl) {i : Nat} (ha : DE X ea (tVar i) (aVar i)) (hb : DE X eb tb ab) (hs : PlainIx eb := by exact fun _ _ => rfl) : DE X (.Subscript ea eb pos) (tOp (rIx K) (tVar i) tb) (aIxO i ab) := by
  subst hK
  exact ⟨pe_ix ix_seq ha.pe hb.pe hs, sim_ixO hb.sm⟩
theorem do_no : DO X none tNoPart aNoP := ⟨po_none, simo_no⟩
theorem do_so (h : DE X ea ta aa) : DO X (some ea) (tPart ta) (aPart aa) := ⟨po_some h.pe, simo_part h.sm⟩
theorem d_slL {K : PySem.W.Frag} (hK : X.K = K := by rfl) {lo hi : Option Expr} {tl th : TO} {al ah : AO} {p2 : Pos} (he : DE X ea ta aa) (hl : DO X lo tl al) (hu : DO X hi th ah) : DE X (.Subscript ea (.Slice lo hi none p2) pos) (tSl (rSlL K) ta tl th) (aSlL aa al ah) := by
  subst hK
  exact ⟨pe_slice sl_list he.pe hl.pe hu.pe, sim_slL he.sm hl.sm hu.sm⟩
theorem d_slT {K : PySem.W.Frag} (hK : X.K = K := by rfl) {lo hi : Option Expr} {tl th : TO} {al ah : AO} {p2 : Pos} (he : DE X ea ta aa) (hl : DO X lo tl al) (hu : DO X hi th ah) : DE X (.Subscript ea (.Slice lo hi none p2) pos) (tSl (rSlA K) ta tl th) (aSlT aa al ah) := by
  subst hK
  exact ⟨pe_slice sl_tupA he.pe hl.pe hu.pe, sim_slT he.sm hl.sm hu.sm⟩
/-! calls -/
theorem d_cb {K : PySem.W.Frag} (hK : X.K = K := by rfl) {x : Str} {id : String} {r : List V → Hp → VK → Prop} {ar : ARC} {tr : TA} {aar : AA} (hr : RC K r ar) (hc : CallR X (.builtin id) r) (hm : X.mg x = none) (hv : bootBuiltins x = some (.builtin id)) (ha : DA X (e :: es) tr aar) (hg : Gl X x := by rfl) (hn : x ≠ "__name__" := by decide) (hdb : (x == ("__debug__" : Str)) = false := by decide)
    (he : starEach (e :: es) X.env = (false, eval e X.env) :: starEach es X.env := by rfl) (hpl : (backTo pos (starEach es X.env)).any (·.1) = false := by rfl) : DE X (.Call (.Name x p) (e :: es) [] pos) (tCB r tr) (aCall ar aar) := by
  subst hK
  exact ⟨pe_callB hc hg hm hv ha.pe hn hdb he hpl, sim_cb hr ha.sm⟩
theorem d_ct {K : PySem.W.Frag} (hK : X.K = K := by rfl) {x : Str} {T : String} {r : List V → Hp → VK → Prop} {ar : ARC} {tr : TA} {aar : AA} (hr : RC K r ar) (hc : CallR X (.type T) r) (hm : X.mg x = none) (hv : bootBuiltins x = some (.type T)) (ha : DA X (e :: es) tr aar) (hg : Gl X x := by rfl) (hn : x ≠ "__name__" := by decide) (hdb : (x == ("__debug__" : Str)) = false := by decide)
    (he : starEach (e :: es) X.env = (false, eval e X.env) :: starEach es X.env := by rfl) (hpl : (backTo pos (starEach es X.env)).any (·.1) = false := by rfl) : DE X (.Call (.Name x p) (e :: es) [] pos) (tCB r tr) (aCall ar aar) := by
  subst hK
  exact ⟨pe_callTy hc hg hm hv ha.pe hn hdb he hpl, sim_cb hr ha.sm⟩
def absI (i : Int) : Int := if i < 0 then -i else i
def maxI (i j : Int) : Int := if j > i then j else i
def minI (i j : Int) : Int := if j < i then j else i
theorem cr_abs : CallR X (.builtin "abs") (rI1 absI) := call_abs
theorem cr_max2 (hc : X.calm = true) : CallR X (.builtin "max") (rI2 maxI) := call_max2 hc
theorem cr_min2 (hc : X.calm = true) : CallR X (.builtin "min") (rI2 minI) := call_min2 hc
theorem d_isi {K : PySem.W.Frag} (hK : X.K = K := by rfl) {T : TyN} {x y : Str} {p2 : Pos} (ha : DE X ea ta aa) (hm : X.mg x = none) (hv : bootBuiltins x = some (.builtin "isinstance")) (hmT : X.mg y = none) (hvT : bootBuiltins y = some (.type T.nm)) (hg : Gl X x := by rfl) (hgT : Gl X y := by rfl)
    (hn : x ≠ "__name__" := by decide) (hdb : (x == ("__debug__" : Str)) = false := by decide) (hnT : y ≠ "__name__" := by decide) (hdbT : (y == ("__debug__" : Str)) = false := by decide)
    (he : starEach (ea :: [.Name y p2]) X.env = (false, eval ea X.env) :: starEach [.Name y p2] X.env := by rfl) (he2 : starEach [.Name y p2] X.env = (false, eval (.Name y p2) X.env) :: starEach [] X.env := by rfl) (hpl : (backTo pos (starEach [.Name y p2] X.env)).any (·.1) = false := by rfl) :
    DE X (.Call (.Name x p) [ea, .Name y p2] [] pos) (tCB (rIsi K) (tCons ta (tCons (tC (.ty T.nm)) tNil))) (aIsi T aa) := by
  subst hK
  exact ⟨pe_callB call_isi hg hm hv (pa_cons ha.pe (pa_cons (pe_bltn hgT hmT hvT rfl hnT hdbT) pa_nil he2) he) hn hdb he hpl, sim_isi ha.sm⟩
/-- own defs -/
theorem d_call {K : PySem.W.Frag} (hK : X.K = K := by rfl) {x : Str} {f : Addr} {fd : FuncData} {ps : List Str} {k n : Nat} {S : ARC} {tr : TA} {aar : AA} (F : FnOk X.prog X.w K X.mg X.base CX0 k f fd ps (spD K n S)) (hr : Room k X.A) (hm : X.mg x = some (.ref f)) (hk : PySem.W.keepIn K (.ref f) = true) (hb : Binds K fd ps [])
    (ha : DA X (e :: es) tr aar) (hg : Gl X x := by rfl) (hdb : (x == ("__debug__" : Str)) = false := by decide) (he : starEach (e :: es) X.env = (false, eval e X.env) :: starEach es X.env := by rfl) (hpl : (backTo pos (starEach es X.env)).any (·.1) = false := by rfl) :
    DE X (.Call (.Name x p) (e :: es) [] pos) (tCall (spD K n S) [] E0 tr) (aCall (aFn n S) aar) := by
  subst hK
  exact ⟨pe_call F hr hg hm hk hb .nil pass0 ha.pe hdb he hpl, sim_call ha.sm⟩
theorem d_callM {K : PySem.W.Frag} (hK : X.K = K := by rfl) {x y : Str} {f : Addr} {fd : FuncData} {ps : List Str} {k n j : Nat} {S : ARM} {tr : TA} {aar : AA} {p2 : Pos} (F : FnOk X.prog X.w K X.mg X.base CX0 k f fd ps (spM K n S)) (hr : Room k X.A) (hm : X.mg x = some (.ref f)) (hk : PySem.W.keepIn K (.ref f) = true) (hb : Binds K fd ps [])
    (hv : DE X (.Name y p2) (tVar j) (aVar j)) (ha : DA X es tr aar) (hg : Gl X x := by rfl) (hdb : (x == ("__debug__" : Str)) = false := by decide) (he : starEach (.Name y p2 :: es) X.env = (false, eval (.Name y p2) X.env) :: starEach es X.env := by rfl) (hpl : (backTo pos (starEach es X.env)).any (·.1) = false := by rfl) :
    DE X (.Call (.Name x p) (.Name y p2 :: es) [] pos) (tCall (spM K n S) [] E0 (tCons (tVar j) tr)) (aCallM n j S aar) := by
  subst hK
  exact ⟨pe_call F hr hg hm hk hb .nil pass0 (pa_cons hv.pe ha.pe he) hdb he hpl, sim_callM ha.sm⟩
/-! what is walked, comprehensions -/
section
variable {tg : Expr}
theorem di_list {K : PySem.W.Frag} (hK : X.K = K := by rfl) (h : DE X ea ta aa) : DI X tg ea (iList K ta) (aItL aa) := by
  subst hK
  exact ⟨pi_list h.pe, simi_list h.sm⟩
theorem di_tup {K : PySem.W.Frag} (hK : X.K = K := by rfl) (h : DE X ea ta aa) : DI X tg ea (iTup K ta) (aItT aa) := by
  subst hK
  exact ⟨pi_tup h.pe, simi_tup h.sm⟩
theorem di_rng1 {tr : TA} {ar : AA} (hm : X.mg "range" = none) (ha : DA X [ea] tr ar) (hg : Gl X "range" := by rfl) (hs : starEach [ea] X.env = [(false, eval ea X.env)] := by rfl) : DI X tg (.Call (.Name "range" p) [ea] [] pos) (iRng1 tr) (aRng1 ar) := ⟨pi_range1 hg hm ha.pe hs, simi_rng1 ha.sm⟩
theorem di_rng2 {tr : TA} {ar : AA} (hm : X.mg "range" = none) (ha : DA X [ea, eb] tr ar) (hg : Gl X "range" := by rfl) (hs : starEach [ea, eb] X.env = [(false, eval ea X.env), (false, eval eb X.env)] := by rfl) (hs2 : starEach [eb] X.env = [(false, eval eb X.env)] := by rfl) :
    DI X tg (.Call (.Name "range" p) [ea, eb] [] pos) (iRng2 tr) (aRng2 ar) := ⟨pi_range2 hg hm ha.pe hs hs2, simi_rng2 ha.sm⟩
end
theorem dg_name {i : Nat} {x : Str} (hN : X.N.Nodup) (hi : X.N[i]? = some x := by rfl) (hx : Loc X.env.scope x := by first | exact Or.inl rfl | exact Or.inr rfl) (hf : X.fn x = true ∨ X.env.scope.names.lookup x = some .local := by first | exact .inl rfl | exact .inr rfl | assumption) : DG X (.Name x pos) (gName i) (agName i) [i] :=
  ⟨pg_name hN hi hx hf, simg_name, fun d s P h => ⟨_, h⟩⟩
theorem dgs_nil : DGs X [] gNil agNil [] 0 := ⟨pgs_nil, simgs_nil, fun ds s P h => ⟨by rw [h.1] <;> rfl, s, h.2⟩⟩
theorem dgs_cons {g : TG} {ag : AG} {L M : List Nat} {n : Nat} {gs : TGs} {ags : AGs} (h1 : DG X ea g ag L) (h2 : DGs X es gs ags M n) (hs : (assignEach (ea :: es) X.env).map (·.2) = assign ea X.env :: (assignEach es X.env).map (·.2) := by rfl) : DGs X (ea :: es) (gCons g gs) (agCons ag ags) (L ++ M) (n + 1) := by
  refine ⟨pgs_cons h1.pe h2.pe hs, simgs_cons h1.sm h2.sm, fun ds s P h => ?_⟩
  cases ds with
  | nil => exact h.elim
  | cons d ds =>
    obtain ⟨s1, h3⟩ := h1.ex _ _ _ h
    obtain ⟨h4, s2, h5⟩ := h2.ex _ _ _ h3
    exact ⟨by rw [List.length_cons, h4], s2, h5⟩
theorem dg_tup {K : PySem.W.Frag} (hK : X.K = K := by rfl) {k n : Nat} {L : List Nat} {gs : TGs} {ags : AGs} (hc : X.calm = true) (h : DGs X es gs ags L n) (hn : (assignEach es X.env).length = n := by rfl) (hst : (assignEach es X.env).findIdx? (·.1) = none := by rfl) : DG X (.Tuple es k pos) (gTup K n gs) (agTup ags) L := by
  subst hK
  refine ⟨pg_tup hc h.pe hn hst, simg_tup h.sm fun ds s P q => (h.ex ds s P q).1, fun d s P q => ?_⟩
  cases d <;> first | exact q.elim | skip
  exact (h.ex _ s P q).2
/-! comprehensions -/
theorem d_lc {elt tg iter : Expr} {scope : Scope} {own : List (Str × Nat)} {wi : TI} {ai : AI} {g : TG} {ag : AG} {L : List Nat} (hc : X.calm = true) (hN : X.N.Nodup) (hi : DI X tg iter wi ai) (ok : BlkOk X.N X.env.scope scope own) (hL : ∀ j, j ∈ L → j ∈ own.map (·.2))
    (hg : ∀ (s : Shared) (H : Hp) (C : Addr) (cl : List (Str × Addr)) (fp : List Addr), DG (X.blk s H scope (compEnvC scope cl C X.env) fp) tg g ag L)
    (he : ∀ (s : Shared) (H : Hp) (C : Addr) (cl : List (Str × Addr)) (fp : List Addr), DE (X.blk s H scope (compEnvC scope cl C X.env) fp) elt te aa) (hs : ∀ x, foldedSetIterable iter X.env x = pure x := by intro _; rfl) :
    DE X (.ListComp elt [⟨tg, iter, [], 0⟩] scope pos) (tLc wi g tYes te (own.map (·.2))) (aLc ai ag aYes aa (own.map (·.2))) :=
  ⟨pe_lc hc hN hi.pe ok (fun s H C cl fp => (hg s H C cl fp).pe) (fun _ _ _ _ _ => pts_nil) (fun s H C cl fp => (he s H C cl fp).pe) hs,
    sim_lc hi.sm (hg ⟨X.base, X.s_0.gens, X.s_0.drawn, X.s_0.toks, X.s_0.os⟩ X.H_0 0 [] []).sm hL simt_yes (he ⟨X.base, X.s_0.gens, X.s_0.drawn, X.s_0.toks, X.s_0.os⟩ X.H_0 0 [] []).sm⟩
theorem d_lcI {elt tg iter cnd : Expr} {scope : Scope} {own : List (Str × Nat)} {wi : TI} {ai : AI} {g : TG} {ag : AG} {L : List Nat} (hc : X.calm = true) (hN : X.N.Nodup) (hi : DI X tg iter wi ai) (ok : BlkOk X.N X.env.scope scope own) (hL : ∀ j, j ∈ L → j ∈ own.map (·.2))
    (hg : ∀ (s : Shared) (H : Hp) (C : Addr) (cl : List (Str × Addr)) (fp : List Addr), DG (X.blk s H scope (compEnvC scope cl C X.env) fp) tg g ag L)
    (ht : ∀ (s : Shared) (H : Hp) (C : Addr) (cl : List (Str × Addr)) (fp : List Addr), DT (X.blk s H scope (compEnvC scope cl C X.env) fp) cnd t at1)
    (he : ∀ (s : Shared) (H : Hp) (C : Addr) (cl : List (Str × Addr)) (fp : List Addr), DE (X.blk s H scope (compEnvC scope cl C X.env) fp) elt te aa) (hs : ∀ x, foldedSetIterable iter X.env x = pure x := by intro _; rfl) :
    DE X (.ListComp elt [⟨tg, iter, [cnd], 0⟩] scope pos) (tLc wi g t te (own.map (·.2))) (aLc ai ag at1 aa (own.map (·.2))) :=
  ⟨pe_lc hc hN hi.pe ok (fun s H C cl fp => (hg s H C cl fp).pe) (fun s H C cl fp => pts_one (ht s H C cl fp).pe) (fun s H C cl fp => (he s H C cl fp).pe) hs,
    sim_lc hi.sm (hg ⟨X.base, X.s_0.gens, X.s_0.drawn, X.s_0.toks, X.s_0.os⟩ X.H_0 0 [] []).sm hL (ht ⟨X.base, X.s_0.gens, X.s_0.drawn, X.s_0.toks, X.s_0.os⟩ X.H_0 0 [] []).sm (he ⟨X.base, X.s_0.gens, X.s_0.drawn, X.s_0.toks, X.s_0.os⟩ X.H_0 0 [] []).sm⟩
/-- y = [..] -/
theorem s_lc {i : Nat} {y : Str} {py spos : Pos} {elt tg iter : Expr} {scope : Scope} {own : List (Str × Nat)} {wi : TI} {ai : AI} {g : TG} {ag : AG} {L : List Nat} (hc : X.calm = true) (hN : X.N.Nodup) (hi : DI X tg iter wi ai) (ok : BlkOk X.N X.env.scope scope own) (hL : ∀ j, j ∈ L → j ∈ own.map (·.2))
    (hg : ∀ (s : Shared) (H : Hp) (C : Addr) (cl : List (Str × Addr)) (fp : List Addr), DG (X.blk s H scope (compEnvC scope cl C X.env) fp) tg g ag L)
    (he : ∀ (s : Shared) (H : Hp) (C : Addr) (cl : List (Str × Addr)) (fp : List Addr), DE (X.blk s H scope (compEnvC scope cl C X.env) fp) elt te aa)
    (hsw : swapsWith (.ListComp elt [⟨tg, iter, [], 0⟩] scope pos) (some (.Name y py)) spos.line X.env = pure true) (hy : X.N[i]? = some y := by rfl) (hyl : X.env.scope.names.lookup y = some .local := by rfl) (hs : ∀ x, foldedSetIterable iter X.env x = pure x := by intro _; rfl) :
    DS X (.Assign [.Name y py] (.ListComp elt [⟨tg, iter, [], 0⟩] scope pos) spos) (tAsg (tLc wi g tYes te (own.map (·.2))) (gName i)) (aSet i (aLc ai ag aYes aa (own.map (·.2)))) :=
  ⟨ps_setLc hc hN hy hyl hsw hi.pe ok (fun s H C cl fp => (hg s H C cl fp).pe) (fun _ _ _ _ _ => pts_nil) (fun s H C cl fp => (he s H C cl fp).pe) hs,
    sims_set (sim_lc hi.sm (hg ⟨X.base, X.s_0.gens, X.s_0.drawn, X.s_0.toks, X.s_0.os⟩ X.H_0 0 [] []).sm hL simt_yes (he ⟨X.base, X.s_0.gens, X.s_0.drawn, X.s_0.toks, X.s_0.os⟩ X.H_0 0 [] []).sm)⟩
theorem s_lcI {i : Nat} {y : Str} {py spos : Pos} {elt tg iter cnd : Expr} {scope : Scope} {own : List (Str × Nat)} {wi : TI} {ai : AI} {g : TG} {ag : AG} {L : List Nat} (hc : X.calm = true) (hN : X.N.Nodup) (hi : DI X tg iter wi ai) (ok : BlkOk X.N X.env.scope scope own) (hL : ∀ j, j ∈ L → j ∈ own.map (·.2))
    (hg : ∀ (s : Shared) (H : Hp) (C : Addr) (cl : List (Str × Addr)) (fp : List Addr), DG (X.blk s H scope (compEnvC scope cl C X.env) fp) tg g ag L)
    (ht : ∀ (s : Shared) (H : Hp) (C : Addr) (cl : List (Str × Addr)) (fp : List Addr), DT (X.blk s H scope (compEnvC scope cl C X.env) fp) cnd t at1)
    (he : ∀ (s : Shared) (H : Hp) (C : Addr) (cl : List (Str × Addr)) (fp : List Addr), DE (X.blk s H scope (compEnvC scope cl C X.env) fp) elt te aa)
    (hsw : swapsWith (.ListComp elt [⟨tg, iter, [cnd], 0⟩] scope pos) (some (.Name y py)) spos.line X.env = pure true) (hy : X.N[i]? = some y := by rfl) (hyl : X.env.scope.names.lookup y = some .local := by rfl) (hs : ∀ x, foldedSetIterable iter X.env x = pure x := by intro _; rfl) :
    DS X (.Assign [.Name y py] (.ListComp elt [⟨tg, iter, [cnd], 0⟩] scope pos) spos) (tAsg (tLc wi g t te (own.map (·.2))) (gName i)) (aSet i (aLc ai ag at1 aa (own.map (·.2)))) :=
  ⟨ps_setLc hc hN hy hyl hsw hi.pe ok (fun s H C cl fp => (hg s H C cl fp).pe) (fun s H C cl fp => pts_one (ht s H C cl fp).pe) (fun s H C cl fp => (he s H C cl fp).pe) hs,
    sims_set (sim_lc hi.sm (hg ⟨X.base, X.s_0.gens, X.s_0.drawn, X.s_0.toks, X.s_0.os⟩ X.H_0 0 [] []).sm hL (ht ⟨X.base, X.s_0.gens, X.s_0.drawn, X.s_0.toks, X.s_0.os⟩ X.H_0 0 [] []).sm (he ⟨X.base, X.s_0.gens, X.s_0.drawn, X.s_0.toks, X.s_0.os⟩ X.H_0 0 [] []).sm)⟩
/-! statements -/
variable {st : Stmt} {sts : List Stmt}
theorem s_set {i : Nat} {x : Str} {pos' : Pos} (hN : X.N.Nodup) (he : DE X ea ta aa) (hi : X.N[i]? = some x := by rfl) (hx : Loc X.env.scope x := by first | exact Or.inl rfl | exact Or.inr rfl) (hs : swapsWith ea (some (.Name x pos')) pos.line X.env = pure false := by rfl)
    (hf : X.fn x = true ∨ X.env.scope.names.lookup x = some .local := by first | exact .inl rfl | exact .inr rfl | assumption) : DS X (.Assign [.Name x pos'] ea pos) (tAsg ta (gName i)) (aSet i aa) := ⟨ps_set hN hi hx he.pe hs hf, sims_set he.sm⟩
theorem s_asg {tg : Expr} {g : TG} {ag : AG} {L : List Nat} (he : DE X ea ta aa) (hg : DG X tg g ag L) (hs : swapsWithSole [tg] ea pos.line X.env = pure false := by rfl) (hw : swappedStores [tg] ea X.env = pure none := by rfl)
    (h1 : (assignEach [tg] X.env).map (·.2) = [assign tg X.env] := by rfl) : DS X (.Assign [tg] ea pos) (tAsg ta g) (aAsg aa ag) := ⟨ps_asg he.pe hg.pe hs hw h1, sims_asg he.sm hg.sm⟩
/-- x, y = e, f -/
def aPar (i j : Nat) (a b : AE) : AS := fun A s => a s fun r1 s1 => b s1 fun r2 s2 => A.nx ((s2.set i r1).set j r2)
theorem Step.put2 {K : PySem.W.Frag} {F H F1 H1 : Hp} {s s1 : Ss} {σ : L2.St} {r1 r2 : Sl} {v w : V} {i j : Nat} (st : Step K s F H s1 F1 H1 σ) (q1 : Rs K s H F1 H1 s1 r1 v) (q2 : Rs K s H F1 H1 s1 r2 w) (hne : ∀ p xs ys, r1 = .ow p xs → r2 = .ow p ys → False) :
    Step K s F H ((s1.set i r1).set j r2) F1 H1 ((σ.set i (some v)).set j (some w)) := by
  refine (st.put q1).put ⟨q2.ok, fun p xs e => ⟨(q2.fr p xs e).1, fun z => ?_⟩⟩
  rcases own_set z with y | ⟨ys, y⟩
  · exact (q2.fr p xs e).2 y
  · exact hne p ys xs y e
theorem s_par {i j : Nat} {x y : Str} {px py pt : Pos} {kt k2 : Nat} {pt2 : Pos} (hc : X.calm = true) (hN : X.N.Nodup) (ha : DE X ea ta aa) (hb : DE X eb tb ab) (hij : i ≠ j)
    (hw : swappedStores [.Tuple [.Name x px, .Name y py] kt pt] (.Tuple [ea, eb] k2 pt2) X.env = pure (some [x, y])) (hi : X.N[i]? = some x := by rfl) (hj : X.N[j]? = some y := by rfl)
    (hx : X.env.scope.names.lookup x = some .local := by rfl) (hy : X.env.scope.names.lookup y = some .local := by rfl)
    (hs : swapsWithSole [.Tuple [.Name x px, .Name y py] kt pt] (.Tuple [ea, eb] k2 pt2) pos.line X.env = pure false := by rfl)
    (he : starEach (ea :: [eb]) X.env = (false, eval ea X.env) :: starEach [eb] X.env := by rfl) (he2 : starEach [eb] X.env = (false, eval eb X.env) :: starEach [] X.env := by rfl) :
    DS X (.Assign [.Tuple [.Name x px, .Name y py] kt pt] (.Tuple [ea, eb] k2 pt2) pos) (tPar i j (tCons ta (tCons tb tNil))) (aPar i j aa ab) :=
  ⟨ps_par hc hN hi hj hij hx hy (pa_cons ha.pe (pa_cons hb.pe pa_nil he2) he) hw hs, fun A s q σ F H ok E kn kr kb kc => by
    refine ha.sm s _ q σ F H ok _ fun r1 s1 v1 F1 H1 q1 st1 rs1 => ?_
    refine hb.sm s1 _ q1 σ F1 H1 st1.st _ fun r2 s2 v2 F2 H2 q2 st2 rs2 => ?_
    refine ⟨v1, v2, rfl, kn _ _ F2 H2 q2 ((st1.trans st2).put2 (rs1.keep st2) (rs2.more st1) fun p xs ys e1 e2 => ?_)⟩
    obtain ⟨g1, g2⟩ := rs1.fr p xs e1
    obtain ⟨g3, g4⟩ := rs2.fr p ys e2
    rcases g3 with z | z
    · have h := rs1.ok
      rw [e1] at h
      obtain ⟨_, _, us, h3, _⟩ := h
      rw [h3] at z
      cases z
    · exact g2 z⟩
theorem s_augA {i : Nat} {x : Str} {pos' : Pos} (hN : X.N.Nodup) (he : DE X ea ta aa) (hi : X.N[i]? = some x := by rfl) (hx : Loc X.env.scope x := by first | exact Or.inl rfl | exact Or.inr rfl) (hf : X.fn x = true ∨ X.env.scope.names.lookup x = some .local := by first | exact .inl rfl | exact .inr rfl | assumption) :
    DS X (.AugAssign (.Name x pos') .Add ea pos) (tAug i ta (ipI fun i j => i + j)) (aAug i (fun i j => i + j) aa) := ⟨ps_aug hN hi hx he.pe ip_add hf, sims_aug he.sm⟩
theorem s_augS {i : Nat} {x : Str} {pos' : Pos} (hN : X.N.Nodup) (he : DE X ea ta aa) (hi : X.N[i]? = some x := by rfl) (hx : Loc X.env.scope x := by first | exact Or.inl rfl | exact Or.inr rfl) (hf : X.fn x = true ∨ X.env.scope.names.lookup x = some .local := by first | exact .inl rfl | exact .inr rfl | assumption) :
    DS X (.AugAssign (.Name x pos') .Sub ea pos) (tAug i ta (ipI fun i j => i - j)) (aAug i (fun i j => i - j) aa) := ⟨ps_aug hN hi hx he.pe ip_sub hf, sims_aug he.sm⟩
theorem s_app {i : Nat} {x : Str} {p2 apos cpos : Pos} (he : DE X ea ta aa) (hv : DE X (.Name x p2) (tVar i) (aVar i)) (hbase : attributeBase (.Name x p2) "append" X.env (eval (.Name x p2) X.env) = eval (.Name x p2) X.env := by rfl)
    (hfew : ((backTo cpos (starEach (ea :: []) X.env)).all (fun x => !x.1) && (backToKw cpos (keywordEach [] X.env)).all (fun x => x.1.isSome) && decide ((ea :: []).length + ([] : List Keyword).length + (if ([] : List Keyword).isEmpty then 0 else 1) < 30)) = true := by rfl)
    (hline : (apos.endLine == cpos.line) = true := by rfl) (hs : starEach (ea :: []) X.env = (false, eval ea X.env) :: starEach [] X.env := by rfl) (hplain : (backTo cpos (starEach [] X.env)).any (·.1) = false := by rfl)
    (hsw : swapsWith (.Call (.Attribute (.Name x p2) "append" apos) [ea] [] cpos) none pos.line X.env = pure false := by rfl) : DS X (.Expr (.Call (.Attribute (.Name x p2) "append" apos) [ea] [] cpos) pos) (tDrop (tBM X.K "list" rAppend (tVar i) (tCons ta tNil))) (aApp i aa) :=
  ⟨ps_expr (pe_bm PySem.F.plainAttrs_list PySem.F.slot_list_append PySem.F.type_list_append mt_append hv.pe (pa_cons he.pe pa_nil hs) hbase hfew hline hs hplain) hsw, sims_app he.sm⟩
theorem s_put {i : Nat} {x : Str} {p2 spos : Pos} (he : DE X ea ta aa) (hv : DE X (.Name x p2) (tVar i) (aVar i)) (hk : DE X eb tb ab)
    (ha : ∀ v, assign (.Subscript (.Name x p2) eb spos) X.env v = (do
      let ov ← holding [v] (eval (.Name x p2) X.env)
      let iv ← holding [v, ov] (eval eb X.env)
      standAt spos
      holding [v, ov, iv] (setItem ov iv v)
      release [v, ov, iv] []) := by intro _; rfl) (hs : swapsWithSole [.Subscript (.Name x p2) eb spos] ea pos.line X.env = pure false := by rfl) (hw : swappedStores [.Subscript (.Name x p2) eb spos] ea X.env = pure none := by rfl)
    (h1 : (assignEach [.Subscript (.Name x p2) eb spos] X.env).map (·.2) = [assign (.Subscript (.Name x p2) eb spos) X.env] := by rfl) :
    DS X (.Assign [.Subscript (.Name x p2) eb spos] ea pos) (tAsg ta (gSub (tVar i) tb rSetL)) (aPut i aa ab) := ⟨ps_asg he.pe (pg_sub hv.pe hk.pe set_list ha) hs hw h1, sims_put he.sm hk.sm⟩
theorem s_expr (he : DE X ea ta aa) (hs : swapsWith ea none pos.line X.env = pure false := by rfl) : DS X (.Expr ea pos) (tDrop ta) (aDrop aa) := ⟨ps_expr he.pe hs, sims_drop he.sm⟩
theorem s_ret (he : DE X ea ta aa) : DS X (.Return (some ea) pos) (tRet ta) (aRet aa) := ⟨ps_ret he.pe, sims_ret he.sm⟩
theorem s_retN : DS X (.Return none pos) tRetN aRetN := ⟨ps_retN, sims_retN⟩
theorem s_if {b1 b2 : List Stmt} (hc : DT X ec t at1) (h1 : DSs X b1 ts as) (h2 : DSs X b2 tu aus) : DS X (.If ec b1 b2 pos) (tIfS t ts tu) (aIfS at1 as aus) := ⟨ps_if hc.pe h1.pe h2.pe, sims_if hc.sm h1.sm h2.sm⟩
theorem s_pass : DS X (.Pass pos) tNext aNext := ⟨ps_pass, sims_next⟩
theorem s_brk : DS X (.Break pos) tBreak aBrk := ⟨ps_break, sims_brk⟩
theorem s_cnt : DS X (.Continue pos) tCont aCnt := ⟨ps_continue, sims_cnt⟩
theorem s_nev : DS X st tNever aNev := ⟨ps_never, sims_nev⟩
theorem s_for {tg iter : Expr} {body : List Stmt} {wi : TI} {ai : AI} {g : TG} {ag : AG} {L : List Nat} (hp : PassesOwn (model X.prog X.w) X.A X.env X.xe) (hc : X.calm = true) (hi : DI X tg iter wi ai) (hg : DG X tg g ag L) (hb : DSs X body ts as)
    (hs : ∀ x, foldedSetIterable iter X.env x = pure x := by intro _; rfl) : DS X (.For tg iter body [] pos) (tFor wi g ts) (aFor ai ag as) := ⟨ps_for hp hc hi.pe hg.pe hb.pe hs, sims_for hi.sm hg.sm hb.sm⟩
theorem s_while {body : List Stmt} (hp : PassesOwn (model X.prog X.w) X.A X.env X.xe) (hc : DT X ec t at1) (hb : DSs X body ts as) : DS X (.While ec body [] pos) (tWhile t ts) (aWhile at1 as) := ⟨ps_while hp hc.pe hb.pe, sims_while hc.sm hb.sm⟩
theorem ss_nil : DSs X [] tNext aNext := ⟨pss_nil, sims_next⟩
theorem ss_one (h : DS X st ts as) : DSs X [st] ts as := ⟨pss_one h.pe, h.sm⟩
theorem ss_cons (h : DS X st ts as) (h2 : DSs X sts tu aus) : DSs X (st :: sts) (tSeq ts tu) (aSeq as aus) := ⟨pss_cons h.pe h2.pe, sims_seq h.sm h2.sm⟩
end
section
variable {P : Program} {w : World} {K : PySem.W.Frag} {mg : Str → Option Value} {base : Heap}
theorem fnD {x qual : Str} {st : Stmt} {f : Addr} {fd : FuncData} {N ps : List Str} {k n : Nat} {S : ARC} {as : AS} (Fn : Fun K x qual st f fd) (Sc : FnScope N ps (defScope st)) (hn : ps.length = n)
    (hS : ∀ ds Q, ds.length = n → S ds Q → as (endsD Q) (startS N.length (ds.map .pu)))
    (hbody : ∀ (cdv : Value) (A : Around) (outer : List Env) (s : Shared) (H : Hp) (E : XK), Room k (A.deeper (PyProof.Rows.envOfC qual (defScope st) s.heap.objs.size f cdv)) → ∃ ts, DSs (cxOf CX0 P w K mg base N qual (defScope st) f cdv A outer s H E).nox (defBody st) ts as) :
    FnOk P w K mg base CX0 (k + 1) f fd ps (spD K n S) := okD Fn Sc hn fun cdv A outer s H E hr => by
  obtain ⟨ts, h⟩ := hbody cdv A outer s H E hr
  exact ⟨ts, as, h.pe, h.sm, hS⟩
theorem fnM {x qual : Str} {st : Stmt} {f : Addr} {fd : FuncData} {N ps : List Str} {k n : Nat} {S : ARM} {as : AS} (Fn : Fun K x qual st f fd) (Sc : FnScope N ps (defScope st)) (hn : ps.length = n)
    (hS : ∀ xs ds Q p, ds.length + 1 = n → S xs ds Q → as (endsM Q p) (startS N.length (.ow p xs :: ds.map .pu)))
    (hbody : ∀ (cdv : Value) (A : Around) (outer : List Env) (s : Shared) (H : Hp) (E : XK), Room k (A.deeper (PyProof.Rows.envOfC qual (defScope st) s.heap.objs.size f cdv)) → ∃ ts, DSs (cxOf CX0 P w K mg base N qual (defScope st) f cdv A outer s H E).nox (defBody st) ts as) :
    FnOk P w K mg base CX0 (k + 1) f fd ps (spM K n S) := okM Fn Sc hn fun cdv A outer s H E hr => by
  obtain ⟨ts, h⟩ := hbody cdv A outer s H E hr
  exact ⟨ts, as, h.pe, h.sm, hS⟩
end
end DL

namespace DL
open PySem L2

abbrev aAdd (a b : AE) : AE := aOp (aI fun i j => i + j) a b
abbrev aSub (a b : AE) : AE := aOp (aI fun i j => i - j) a b
abbrev aMul (a b : AE) : AE := aOp (aIC CMul fun i j => i * j) a b
abbrev aMulW (a b : AE) : AE := aOp (aIC CMulW fun i j => i * j) a b
abbrev aDiv (a b : AE) : AE := aOp (aIC CDiv fun i j => i / j) a b
abbrev aDivW (a b : AE) : AE := aOp (aIC CDivW fun i j => i / j) a b
abbrev aMod (a b : AE) : AE := aOp (aIC (fun _ j => 0 < j) fun i j => i % j) a b
abbrev aPow (a b : AE) : AE := aOp (aIC CPow fun i j => i ^ j.toNat) a b
abbrev aLt : AR2 := aB fun i j => decide (i < j)
abbrev aLe : AR2 := aB fun i j => decide (i ≤ j)
abbrev aGt : AR2 := aB fun i j => decide (j < i)
abbrev aGe : AR2 := aB fun i j => decide (j ≤ i)
/-- powers of great numbers -/
def CPowW (i j : Int) : Prop := 0 ≤ j ∧ (Builtin.Int.intBits i : Int) * j ≤ 2 ^ 27
theorem op_powW {X : Cx} : OpR X (binaryOp .Pow) (rI CPowW fun i j => .int (i ^ j.toNat)) := opI fun _ _ _ _ _ _ _ hc q => PyProof.Rows.pow_int hc.1 hc.2 q
abbrev aPowW (a b : AE) : AE := aOp (aIC CPowW fun i j => i ^ j.toNat) a b
theorem d_powW {X : Cx} {ea eb : Expr} {ta tb : TE} {aa ab : AE} {pos : Pos} (ha : DE X ea ta aa) (hb : DE X eb tb ab) : DE X (.BinOp ea .Pow eb pos) (tOp (rI CPowW fun i j => .int (i ^ j.toNat)) ta tb) (aPowW aa ab) := d_op op_powW rd_ic ha hb
/-- list(range(..)) -/
def aListRange1 (a : AA) : AE := fun s P => a s fun ds s1 => match ds with
  | [.int j] => (0 ≤ j ∧ j ≤ 16777216) ∧ ∀ p, P (.ow p (rngD 0 j.toNat)) s1
  | _ => False
def aListRange2 (a : AA) : AE := fun s P => a s fun ds s1 => match ds with
  | [.int i, .int j] => RgOk i j ∧ ∀ p, P (.ow p (rngD i (j - i).toNat)) s1
  | _ => False
theorem dqa_rng {K : PySem.W.Frag} {F : Hp} (a b : Int) : DqA K F (rngD a (b - a).toNat) (rgV a b) := by
  unfold rngD rgV
  generalize (List.range (b - a).toNat) = l
  induction l with
  | nil => rfl
  | cons x l ih => exact ⟨_, _, rfl, rfl, ih⟩
theorem d_list_range1 {X : Cx} {ea : Expr} {ta : TE} {aa : AE} {p p2 pos pos2 : Pos} (hm : X.mg "list" = none) (hm2 : X.mg "range" = none) (hc : X.calm = true) (ha : DE X ea ta aa) (hg : Gl X "list" := by rfl) (hg2 : Gl X "range" := by rfl) (n1 : starEach [ea] X.env = (false, eval ea X.env) :: starEach [] X.env := by rfl)
    (na : starEach [.Call (.Name "range" p) [ea] [] pos] X.env = (false, eval (.Call (.Name "range" p) [ea] [] pos) X.env) :: starEach [] X.env := by rfl) :
    DE X (.Call (.Name "list" p2) [.Call (.Name "range" p) [ea] [] pos] [] pos2) (tLstRg (tRg1 ta)) (aListRange1 (aCons aa aNil)) :=
  ⟨pe_listRg hc hg hm (prg_1 hg2 hm2 ha.pe n1) na, fun s P q σ F H ok Q k => by
    refine ha.sm.d q ok fun r s1 v F1 H1 q1 st1 d1 => ?_
    have q2 : (match [r.d] with | [.int j] => (0 ≤ j ∧ j ≤ 16777216) ∧ ∀ p, P (.ow p (rngD 0 j.toNat)) s1 | _ => False) := q1
    cases e : r.d <;> simp only [e] at q2
    rename_i j
    rw [e] at d1
    refine ⟨j, d1, RgOk.of_le (by omega) (by omega) (by omega) (by omega), fun p hp => ?_⟩
    have hd := dqa_rng (K := X.K) (F := F1) 0 j
    obtain ⟨st2, rs2⟩ := st1.leaf (Lf.newL st1.st.le hp hd)
    have q3 := q2.2 p
    rw [show j.toNat = (j - 0).toNat by omega] at q3
    exact k _ s1 _ _ _ q3 st2 rs2⟩

/-- a def that changes its first argument, called with a new list -/
def aCallT (n : Nat) (S : ARM) (a0 : AE) (ar : AA) : AE := fun s P => a0 s fun r s1 => match r with
  | .ow _ xs => ar s1 fun ds s2 => ds.length + 1 = n ∧ S xs ds fun rs _ => P rs s2
  | _ => False
theorem sim_callT {K : PySem.W.Frag} {n : Nat} {S : ARM} {te : TE} {t : TA} {a0 : AE} {a : AA} (h0 : Sim K te a0) (ha : SimA K t a) : Sim K (tCall (spM K n S) [] E0 (tCons te t)) (aCallT n S a0 a) := fun s P q σ F H ok Q k => by
  refine h0 s _ q σ F H ok _ fun r s1 v F1 H1 q1 st1 rs1 => ?_
  cases r with
  | no => exact q1.elim
  | pu d => exact q1.elim
  | ow p xs =>
    refine ha s1 _ q1 σ F1 H1 st1.st _ fun ds s2 ws F2 H2 q2 st2 d2 => ?_
    have rs2 := rs1.keep st2
    obtain ⟨z3, y1, us, y2, y3⟩ := rs2.ok
    cases z3
    obtain ⟨w1, w2⟩ := rs2.fr p xs rfl
    show spM K n S ((V.ref p :: ws) ++ []) H2 Q E0
    rw [List.append_nil]
    refine ⟨F2, p, xs, us, ds, ws, _, rfl, st2.st.le, y1, y2, y3, d2, q2.1, q2.2, fun rs xs' v F3 H3 hP l => ?_⟩
    have st12 := st1.trans st2
    have hF : ∀ b vs, F2 b = none → H2 b = some (.lst vs) → F3 b = none := fun b vs w1 w2 => by
      cases z : F3 b with
      | none => rfl
      | some o =>
        rcases l.n b (by rw [z]; intro y; cases y) with y | y
        · exact absurd w1 y
        · rw [w2] at y
          cases y
    obtain ⟨us2, m1, m2⟩ := l.m
    have stp : Step K s F H s2 F3 H3 σ := by
      refine ⟨⟨l.le, st12.st.len, fun i l2 o g1 g2 => ?_, st12.st.un⟩, st12.f.trans l.f, fun b o g1 g2 => ?_, fun b g1 => ?_, fun b g1 => ?_, st12.o⟩
      · refine (st12.st.ok i l2 o g1 g2).mono l.f fun b ys e4 vs x1 x2 => ⟨hF _ _ x1 x2, l.h b _ (fun z => ?_) x2⟩
        subst z
        exact w2 ⟨i, ys, by rw [g1, e4]⟩
      · refine l.h b o (fun z => ?_) (st12.k b o g1 g2)
        subst z
        rcases w1 with z | z
        · rw [g1] at z
          cases z
        · exact g2 z
      · by_cases z : b = p
        · subst z
          rw [m1] at g1
          cases g1
        · refine st12.t b ?_
          cases z2 : H2 b with
          | none => rfl
          | some o =>
            rw [l.h b o z z2] at g1
            cases g1
      · rcases l.n b g1 with z | z
        · exact st12.n b z
        · exact .inr (.inl (st12.t b z))
    refine k rs s2 v F3 H3 hP stp ⟨l.ok, fun q ys e3 => ?_⟩
    have z := l.fr q ys e3
    refine ⟨.inl (st12.t q z), fun w => ?_⟩
    obtain ⟨_, vs, w2⟩ := st12.st.own w
    rw [z] at w2
    cases w2
theorem d_callT {X : Cx} {K : PySem.W.Frag} (hK : X.K = K := by rfl) {x : Str} {f : Addr} {fd : FuncData} {ps : List Str} {k n : Nat} {S : ARM} {tr : TA} {aar : AA} {p pos : Pos} {ea : Expr} {es : List Expr} {ta : TE} {aa : AE} (F : FnOk X.prog X.w K X.mg X.base CX0 k f fd ps (spM K n S)) (hr : Room k X.A) (hm : X.mg x = some (.ref f)) (hk : PySem.W.keepIn K (.ref f) = true) (hb : Binds K fd ps [])
    (h0 : DE X ea ta aa) (ha : DA X es tr aar) (hg : Gl X x := by rfl) (hdb : (x == ("__debug__" : Str)) = false := by decide) (he : starEach (ea :: es) X.env = (false, eval ea X.env) :: starEach es X.env := by rfl) (hpl : (backTo pos (starEach es X.env)).any (·.1) = false := by rfl) :
    DE X (.Call (.Name x p) (ea :: es) [] pos) (tCall (spM K n S) [] E0 (tCons ta tr)) (aCallT n S aa aar) := by
  subst hK
  exact ⟨pe_call F hr hg hm hk hb .nil pass0 (pa_cons h0.pe ha.pe he) hdb he hpl, sim_callT h0.sm ha.sm⟩
/-! ### the law's own end -/
def spLaw (K : PySem.W.Frag) : Sp := fun vs H Q _ => ∃ (a : Addr) (ns : List Int), vs = [.ref a] ∧ SqL K H a (ns.map V.int) ∧ ns.length ≤ 63 ∧ ∀ H', Q (.bl true) H'
def SLaw : ARC := fun ds P => ∃ ns : List Int, ds = [.scr (ns.map D.int)] ∧ ns.length ≤ 63 ∧ P (.pu (.bl true))
theorem spLaw_D {K : PySem.W.Frag} : ∀ vs H Q E, spLaw K vs H Q E → spD K 1 SLaw vs H Q E := fun vs H Q E h => by
  obtain ⟨a, ns, rfl, h1, h2, q⟩ := h
  refine ⟨H, [.scr (ns.map D.int)], fun r => r = .pu (.bl true), Same.refl _, ⟨.ref a, [], rfl, ⟨a, _, rfl, h1, dqa_ints ns⟩, rfl⟩, rfl, ⟨ns, rfl, h2, rfl⟩, fun rs v F' H' hr l => ?_⟩
  subst hr
  obtain ⟨w, e1, e2⟩ := l.ok
  cases e1
  cases (show v = _ from e2)
  exact q H'

end DL

namespace DL
open PySem L2
/-! ### lemmas for readings -/
theorem atI_k {α : Type} (xs : List α) (k : Nat) : atI xs (k : Int) = xs[k]? := by
  unfold atI ixN
  rw [if_pos (Int.natCast_nonneg k)]
  by_cases h : (k : Int) < xs.length
  · rw [if_pos h]
    rfl
  · rw [if_neg h, List.getElem?_eq_none (by omega)]
    rfl
theorem atI_k1 {α : Type} (xs : List α) (k : Nat) : atI xs ((k : Int) + 1) = xs[k + 1]? := atI_k xs (k + 1)
def rngK (k m : Nat) : List D := (List.range' k m).map fun (i : Nat) => D.int (i : Int)
theorem rngK_zero (k : Nat) : rngK k 0 = [] := rfl
theorem rngK_succ (k m : Nat) : rngK k (m + 1) = D.int (k : Int) :: rngK (k + 1) m := rfl
theorem rngD_K (n : Nat) : rngD 0 n = rngK 0 n := by
  unfold rngD rngK
  rw [List.range_eq_range']
  refine List.map_congr_left fun i _ => ?_
  rw [Int.zero_add]
theorem rngK_len (k m : Nat) : (rngK k m).length = m := by
  unfold rngK
  rw [List.length_map, List.length_range']
theorem cutD_to (xs : List D) (k : Nat) : cutD xs none (some (k : Int)) = xs.take k := by
  unfold cutD
  rw [HT.sIx_nat, HT.sIx_none, List.drop_zero, Nat.sub_zero]
  by_cases h : k ≤ xs.length
  · rw [Nat.min_eq_left h]
  · rw [Nat.min_eq_right (by omega), List.take_of_length_le (Nat.le_refl _), List.take_of_length_le (by omega)]
theorem cutD_last (xs : List D) : cutD xs none (some (-1)) = xs.take (xs.length - 1) := by
  unfold cutD
  rw [HT.sIx_none, List.drop_zero, Nat.sub_zero]
  have e : HT.sIx xs.length xs.length (some (-1)) = xs.length - 1 := by
    show (if (-1 : Int) < 0 then ((-1 : Int) + (xs.length : Int)).toNat else min (-1 : Int).toNat xs.length) = _
    rw [if_pos (by decide)]
    omega
  rw [e]
theorem aInts_lst (f : List Int → (D → Prop) → Prop) (ns : List Int) (P : Sl → Prop) : aInts f [.lst (ns.map D.int)] P = f ns fun d => P (.pu d) := by
  unfold aInts
  simp only [lstD, Option.bind_some, intsD_map]
theorem aIntsT_tup (f : List Int → (D → Prop) → Prop) (ns : List Int) (P : Sl → Prop) : aIntsT f [.tup (ns.map D.int)] P = f ns fun d => P (.pu d) := by
  unfold aIntsT
  simp only [intsD_map]
theorem aBls_lst (f : List Bool → Bool) (ns : List Bool) (P : Sl → Prop) : aBls f [.lst (ns.map D.bl)] P = P (.pu (.bl (f ns))) := by
  unfold aBls
  simp only [lstD, Option.bind_some, blsD_map]
theorem wipeS_set (s : Ss) (i : Nat) (l : Sl) (h : s.set i .no = s) : wipeS (s.set i l) [i] = s := by
  show (s.set i l).set i .no = s
  rw [List.set_set, h]
/-- a comprehension whose element is a value of its item -/
theorem lc_pure {e : AE} {i : Nat} {s : Ss} (hs : s.set i .no = s) (f : D → D) : ∀ (ds acc : List D) (P : List D → Ss → Prop), (∀ d, d ∈ ds → ∀ R : Sl → Ss → Prop, R (.pu (f d)) (s.set i (.pu d)) → e (s.set i (.pu d)) R) → acc.length + ds.length ≤ 100000 → P (acc ++ ds.map f) s →
    aLcD (agName i) aYes e [i] ds s acc P
  | [], acc, P, he, hl, h => by
    rw [List.map_nil, List.append_nil] at h
    exact h
  | d :: ds, acc, P, he, hl, h => by
    rw [List.length_cons] at hl
    unfold aLcD
    simp only [agName, aYes, if_true]
    refine he d List.mem_cons_self _ ⟨by omega, ?_⟩
    rw [wipeS_set s i _ hs]
    refine lc_pure hs f ds _ P (fun d' hd => he d' (List.mem_cons_of_mem _ hd)) (by rw [List.length_append, List.length_cons, List.length_nil]; omega) ?_
    rw [List.append_assoc]
    exact h
/-- a comprehension by an invariant I of the items made and the other slots -/
theorem lc_inv {e : AE} {i : Nat} (I : List D → Ss → Prop) : ∀ (ds acc : List D) (s : Ss) (P : List D → Ss → Prop), I acc s → acc.length + ds.length ≤ 100000 →
    (∀ acc s d, acc.length < 100000 → I acc s → d ∈ ds → ∀ R : Sl → Ss → Prop, (∀ r s3, I (acc ++ [r.d]) (wipeS s3 [i]) → R r s3) → e (s.set i (.pu d)) R) →
    (∀ acc' s, acc'.length = acc.length + ds.length → I acc' s → P acc' s) → aLcD (agName i) aYes e [i] ds s acc P
  | [], acc, s, P, h0, hl, he, h => h acc s rfl h0
  | d :: ds, acc, s, P, h0, hl, he, h => by
    rw [List.length_cons] at hl
    unfold aLcD
    simp only [agName, aYes, if_true]
    refine he acc s d (by omega) h0 List.mem_cons_self _ fun r s3 h3 => ?_
    refine ⟨by omega, lc_inv I ds _ _ P h3 (by rw [List.length_append, List.length_cons, List.length_nil]; omega) (fun acc s d' ha hi hd' => he acc s d' ha hi (List.mem_cons_of_mem _ hd')) fun acc' s hl2 hi => h acc' s ?_ hi⟩
    rw [hl2, List.length_append, List.length_cons, List.length_nil, List.length_cons]
    omega
/-- a for by an invariant I of what is left and the slots; body in the way of a continuation -/
theorem for_inv {g : AG} {b : AS} {A : AEnds} (I : List D → Ss → Prop) : ∀ (ds : List D) (s : Ss), I ds s → (∀ s, I [] s → A.nx s) →
    (∀ d ds s, I (d :: ds) s → ∀ B : Ss → Prop, (∀ s, I ds s → B s) → g d s fun s1 => b { nx := B, rt := A.rt, bk := A.nx, ct := B } s1) → aForD g b A ds s
  | [], s, h0, h, hb => h s h0
  | d :: ds, s, h0, h, hb => hb d ds s h0 _ fun s1 h1 => for_inv I ds s1 h1 h hb
end DL

namespace K26
open PySem L2 DL
/-! ### the readings, opened -/
theorem at2_0 (x y : D) : atI [x, y] 0 = some x := rfl
theorem at2_1 (x y : D) : atI [x, y] 1 = some y := rfl
theorem at3_0 (x y z : D) : atI [x, y, z] 0 = some x := rfl
theorem at3_1 (x y z : D) : atI [x, y, z] 1 = some y := rfl
theorem at3_2 (x y z : D) : atI [x, y, z] 2 = some z := rfl
theorem ix3_0 : ixN 3 0 = some 0 := rfl
theorem ix3_2 : ixN 3 2 = some 2 := rfl
theorem dec_t {c : Prop} [Decidable c] : (decide c = true) = c := decide_eq_true_eq
theorem seq_cut {t u : AS} {A : AEnds} {s : Ss} (s1 : Ss) (h1 : ∀ B : Ss → Prop, B s1 → t { A with nx := B } s) (h2 : u A s1) : aSeq t u A s := h1 _ h2
theorem if_cut {c : AT} {t u : AS} {A : AEnds} {s : Ss} (b : Bool) (s1 : Ss) (h : ∀ P : Bool → Ss → Prop, P b s1 → c s P) (h2 : if b = true then t A s1 else u A s1) : aIfS c t u A s := h _ h2
local macro_rules | `(tactic| walk_at "d") => `(tactic| try simp only [aSeq, aSet, aVar, aMov, aC, aOp, aI, aIC, aB, aAnd, aOr, aNot, aTest, aIf, aAndV, aOrV, aNotV, aChain, aIsi, aCall, aCons, aNil, aRet, aRetN, aNext, aDrop, aIfS, aNev, aFn, aTup, aLst, aNeg, aIx, aIn, aEq, aNe, aIsN, aNotN, aAsg, agTup, agCons, agNil, agName, aPar, aAug, aInt, aI1, aI2, aLen, aPart, aNoP, aSlT, aSlL, aIxO, aApp, aPut, aCallM, aCallT, aYes, aLc, aItL, aItT, aRng1, aFor, wipeS, aTupl, aList, aListRange1, aLt, aLe, aGt, aGe,
  Sl.d, endsD, endsM, startS, List.map, List.length_cons, List.length_nil, List.length_replicate, List.length_append, List.cons_append, List.nil_append, List.replicate, List.getElem?_cons_zero, List.getElem?_cons_succ, List.getElem?_nil, List.set_cons_zero, List.set_cons_succ, List.set_nil, Nat.zero_add, Nat.reduceAdd, Nat.reduceSub, seqD, lstD, isi, isN, eqS, flatD, if_true, if_false, ite_true, ite_false, reduceIte, Bool.false_eq_true, true_and, and_true, reduceCtorEq, at2_0, at2_1, at3_0, at3_1, at3_2, ix3_0, ix3_2, dec_t, Bool.not_true, Bool.not_false])
/-! ### promises -/
def NoOb : D → Prop
  | .ob _ => False
  | _ => True
def isIntD : D → Bool
  | .int _ => true
  | _ => false
def withinD (d : D) (lo hi : Int) : Bool := match d with
  | .int i => decide (lo ≤ i) && decide (i ≤ hi)
  | _ => false
def S_is_integer : ARC := fun ds P => ∃ d, ds = [d] ∧ NoOb d ∧ P (.pu (.bl (isIntD d)))
def S_is_within : ARC := fun ds P => ∃ d lo hi, ds = [d, .int lo, .int hi] ∧ NoOb d ∧ P (.pu (.bl (withinD d lo hi)))
def S__law_is_int : ARC := S_is_within
def WordOk (w : Str) : Prop := w = "queue" ∨ w = "order" ∨ w = "any"
def S_is_service : ARC := fun ds P => ∃ w n, ds = [.tup [.str w, .int n]] ∧ WordOk w ∧ 1 ≤ n ∧ n ≤ 4 ∧ P (.pu (.bl true))
def S_check_service : ARC := fun ds P => ∃ w n, ds = [.tup [.str w, .int n]] ∧ WordOk w ∧ 1 ≤ n ∧ n ≤ 4 ∧ P (.pu .non)
/-- the draws of a cell: c of them are done -/
def Pot (c : Nat) (xs : List D) : Prop := ∃ a b k : Int, xs = [.int a, .int b, .int k] ∧ 0 ≤ a ∧ 0 ≤ b ∧ b < 2305843009213693921 ∧ 0 ≤ k ∧ k ≤ c
theorem Pot.mono {c d : Nat} {xs : List D} (h : Pot c xs) (l : c ≤ d) : Pot d xs := by
  obtain ⟨a, b, k, h1, h2, h3, h4, h5, h6⟩ := h
  exact ⟨a, b, k, h1, h2, h3, h4, h5, by omega⟩
def S__law_take : ARM := fun xs ds P => ∃ (n : Int) (c : Nat), ds = [.int n] ∧ 0 < n ∧ n < 1000000 ∧ c < 1000000 ∧ Pot c xs ∧ ∀ (j : Int) xs', 0 ≤ j → j < n → Pot (c + 1) xs' → P (.pu (.int j)) xs'
def S__law_of : ARM := fun xs ds P => ∃ (es : List D) (c : Nat), (ds = [.lst es] ∨ ds = [.tup es]) ∧ es ≠ [] ∧ es.length < 1000000 ∧ c < 1000000 ∧ Pot c xs ∧ ∀ e xs', e ∈ es → Pot (c + 1) xs' → P (.pu e) xs'
def S__law_pot : ARC := fun ds P => ∃ (ns : List Int) (i : Int), ds = [.scr (ns.map D.int), .int i] ∧ 0 ≤ i ∧ i ≤ 100 ∧ ns.length ≤ 63 ∧ ∀ p xs, Pot 0 xs → P (.ow p xs)
def S__law_cells : ARC := fun ds P => ∃ (ns : List Int) (m : Int), ds = [.scr (ns.map D.int), .int m] ∧ 1 ≤ m ∧ m ≤ 100 ∧ ns.length ≤ 63 ∧ ∀ (p : Addr) (k : Nat), (k : Int) ≤ m → P (.ow p (rngD 0 k))
abbrev A_is_integer : AS := (aRet (aAndV (aIsi .int (aVar 0)) (aNotV (aIsi .bool (aVar 0)))))
theorem law_is_integer : ∀ ds Q, ds.length = 1 → S_is_integer ds Q → A_is_integer (endsD Q) (startS 1 (ds.map .pu)) := by
  intro ds Q hl h
  obtain ⟨d, rfl, ho, h⟩ := h
  walk_at "d"
  cases d <;> first | exact ho.elim | exact h
abbrev A_is_within : AS := (aRet (aAndV (aCall (aFn 1 S_is_integer) (aCons (aVar 0) aNil)) (aChain aLe aLe (aVar 1) (aVar 0) (aVar 2))))
theorem law_is_within : ∀ ds Q, ds.length = 3 → S_is_within ds Q → A_is_within (endsD Q) (startS 3 (ds.map .pu)) := by
  intro ds Q hl h
  obtain ⟨d, lo, hi, rfl, ho, h⟩ := h
  walk_at "d"
  refine ⟨d, rfl, ho, ?_⟩
  cases d <;> first | exact ho.elim | exact h | skip
  rename_i i
  have h : Q (.pu (.bl (decide (lo ≤ i) && decide (i ≤ hi)))) := h
  walk_at "d"
  by_cases c : lo ≤ i
  · rw [decide_eq_true c, Bool.true_and] at h
    simpa [c, isIntD] using h
  · rw [decide_eq_false c, Bool.false_and] at h
    simpa [c, isIntD] using h
abbrev A__law_is_int : AS := (aRet (aAndV (aIsi .int (aVar 0)) (aAndV (aNotV (aIsi .bool (aVar 0))) (aChain aLe aLe (aVar 1) (aVar 0) (aVar 2)))))
theorem law__law_is_int : ∀ ds Q, ds.length = 3 → S__law_is_int ds Q → A__law_is_int (endsD Q) (startS 3 (ds.map .pu)) := by
  intro ds Q hl h
  obtain ⟨d, lo, hi, rfl, ho, h⟩ := h
  walk_at "d"
  cases d <;> first | exact ho.elim | exact h | skip
  rename_i i
  have h : Q (.pu (.bl (decide (lo ≤ i) && decide (i ≤ hi)))) := h
  by_cases c : lo ≤ i
  · rw [decide_eq_true c, Bool.true_and] at h
    simpa [c, isIntD] using h
  · rw [decide_eq_false c, Bool.false_and] at h
    simpa [c, isIntD] using h
theorem atI_in {ds : List D} {i : Int} (h0 : 0 ≤ i) (h1 : i < ds.length) : ∃ d, atI ds i = some d ∧ ds[i.toNat]? = some d ∧ d ∈ ds := by
  have hi : i.toNat < ds.length := by omega
  refine ⟨ds[i.toNat], ?_, List.getElem?_eq_getElem hi, List.getElem_mem hi⟩
  unfold atI ixN
  rw [if_pos h0, if_pos h1]
  exact List.getElem?_eq_getElem hi
theorem at5 (a b c d e : Int) (i : Int) (h0 : 0 ≤ i) (h1 : i < 5) : ∃ p, atI [D.int a, D.int b, D.int c, D.int d, D.int e] i = some (.int p) ∧ (p = a ∨ p = b ∨ p = c ∨ p = d ∨ p = e) := by
  rcases (show i = 0 ∨ i = 1 ∨ i = 2 ∨ i = 3 ∨ i = 4 by omega) with rfl | rfl | rfl | rfl | rfl
  · exact ⟨a, rfl, .inl rfl⟩
  · exact ⟨b, rfl, .inr (.inl rfl)⟩
  · exact ⟨c, rfl, .inr (.inr (.inl rfl))⟩
  · exact ⟨d, rfl, .inr (.inr (.inr (.inl rfl)))⟩
  · exact ⟨e, rfl, .inr (.inr (.inr (.inr rfl)))⟩
theorem cmul_l {i j : Int} (h0 : 0 ≤ i) (h1 : i < 18446744073709551616) : CMul i j := .inl ⟨by omega, by omega⟩
theorem cmul_r {i j : Int} (h0 : 0 ≤ j) (h1 : j < 18446744073709551616) : CMul i j := .inr ⟨by omega, by omega⟩
theorem cdiv {i j : Int} (h0 : 0 < j) (h1 : j < 1073741824) : CDiv i j := ⟨h0, h1⟩
theorem cpow3 {i : Int} (h0 : 0 ≤ i) (h1 : i < 18446744073709551616) : CPow i 3 := ⟨by decide, by decide, by omega⟩
theorem mul_le {a b A B : Int} (a0 : 0 ≤ a) (b0 : 0 ≤ b) (ha : a ≤ A) (hb : b ≤ B) : 0 ≤ a * b ∧ a * b ≤ A * B := ⟨Int.mul_nonneg a0 b0, Int.mul_le_mul ha hb b0 (Int.le_trans a0 ha)⟩
abbrev A__law_take : AS := (aSeq (aIfS (aTest (aOp aGt (aIxO 0 (aC (.int 0))) (aC (.int 0)))) (aSeq (aSet 2 (aMod (aCall aInt (aCons (aIxO 0 (aC (.int 0))) aNil)) (aVar 1)))
  (aSeq (aPut 0 (aDiv (aIxO 0 (aC (.int 0))) (aVar 1)) (aC (.int 0)))
  (aRet (aVar 2)))) aNext)
  (aSeq (aPut 0 (aAdd (aIxO 0 (aC (.int 2))) (aC (.int 1))) (aC (.int 2)))
  (aSeq (aSet 3 (aOp aIx (aLst (aCons (aC (.int 2147483647)) (aCons (aC (.int 2147483629)) (aCons (aC (.int 2147483587)) (aCons (aC (.int 2147483579)) (aCons (aC (.int 2147483563)) aNil)))))) (aMod (aCall aInt (aCons (aIxO 0 (aC (.int 2))) aNil)) (aC (.int 5)))))
  (aSeq (aSet 4 (aMod (aCall aInt (aCons (aPow (aCall aInt (aCons (aAdd (aAdd (aIxO 0 (aC (.int 1))) (aMul (aMul (aC (.int 98309)) (aIxO 0 (aC (.int 2)))) (aIxO 0 (aC (.int 2))))) (aC (.int 457))) aNil)) (aC (.int 3))) aNil)) (aVar 3)))
  (aSeq (aSet 4 (aMod (aCall aInt (aCons (aMul (aVar 4) (aAdd (aMod (aCall aInt (aCons (aVar 4) aNil)) (aC (.int 10009))) (aMul (aC (.int 89)) (aIxO 0 (aC (.int 2)))))) aNil)) (aC (.int 2305843009213693907))))
  (aRet (aMod (aCall aInt (aCons (aDiv (aVar 4) (aC (.int 173))) aNil)) (aVar 1))))))))
theorem law__law_take : ∀ xs ds Q p, ds.length + 1 = 2 → S__law_take xs ds Q → A__law_take (endsM Q p) (startS 5 (.ow p xs :: ds.map .pu)) := by
  intro xs ds Q p hl h
  obtain ⟨n, c, rfl, h0, h1, h2, ⟨a, b, k, rfl, h3, h4, h5, h6, h7⟩, h⟩ := h
  walk_at "d"
  refine ite2 (fun ha => ?_) (fun ha => ?_)
  · refine ⟨h0, cdiv h0 (by omega), _, rfl, h _ _ (Int.emod_nonneg _ (by omega)) (Int.emod_lt_of_pos _ h0) ⟨_, _, _, rfl, Int.ediv_nonneg h3 (by omega), h4, h5, h6, by omega⟩⟩
  · refine ⟨by decide, fun _ => ⟨by decide, ?_⟩⟩
    obtain ⟨q, e, hq⟩ := at5 2147483647 2147483629 2147483587 2147483579 2147483563 ((k + 1) % 5) (Int.emod_nonneg _ (by decide)) (Int.emod_lt_of_pos _ (by decide))
    have q0 : 0 < q := by omega
    have q1 : q < 2147483648 := by omega
    rw [e]
    have k1 : 0 ≤ k + 1 := by omega
    have k2 : k + 1 ≤ 1000000 := by omega
    have m1 := mul_le (a := 98309) (b := k + 1) (by decide) k1 (Int.le_refl _) k2
    have m2 := mul_le (a := 98309 * (k + 1)) (b := k + 1) m1.1 k1 m1.2 k2
    have m3 := mul_le (a := 89) (b := k + 1) (by decide) k1 (Int.le_refl _) k2
    refine ⟨cmul_l (by decide) (by decide), cmul_l m1.1 (by omega), cpow3 (by omega) (by omega), q0, by decide, cmul_l (by decide) (by decide), ?_, by decide, cdiv (by decide) (by decide), h0, _, rfl, h _ _ (Int.emod_nonneg _ (by omega)) (Int.emod_lt_of_pos _ h0) ⟨_, _, _, rfl, h3, h4, h5, k1, by omega⟩⟩
    have r0 := Int.emod_nonneg ((b + 98309 * (k + 1) * (k + 1) + 457) ^ Int.toNat 3) (show q ≠ 0 by omega)
    have r1 := Int.emod_lt_of_pos ((b + 98309 * (k + 1) * (k + 1) + 457) ^ Int.toNat 3) q0
    exact cmul_l r0 (by omega)
abbrev A__law_of : AS := (aRet (aOp aIx (aVar 1) (aCallM 2 0 S__law_take (aCons (aCall aLen (aCons (aVar 1) aNil)) aNil))))
theorem law__law_of : ∀ xs ds Q p, ds.length + 1 = 2 → S__law_of xs ds Q → A__law_of (endsM Q p) (startS 2 (.ow p xs :: ds.map .pu)) := by
  intro xs ds Q p hl h
  obtain ⟨es, c, hd, h0, h1, h2, h3, h⟩ := h
  have l0 : 0 < es.length := List.length_pos_iff.mpr h0
  rcases hd with rfl | rfl
  all_goals
    walk_at "d"
    refine ⟨es.length, c, rfl, by omega, by omega, h2, h3, fun j xs' j0 j1 hp => ?_⟩
    obtain ⟨d, e1, e2, e3⟩ := atI_in j0 j1
    walk_at "d"
    rw [e1]
    exact ⟨_, rfl, h d xs' e3 hp⟩
theorem own_nn (x m : Int) {c : Prop} [Decidable c] (hm : m ≠ 0) : 0 ≤ x % m * (if c then 1 else 0) := Int.mul_nonneg (Int.emod_nonneg _ hm) (by split <;> decide)
theorem cpw : CPowW (10 ^ Int.toNat 60) 5 := by
  unfold CPowW
  decide +kernel
theorem big_pos : (0 : Int) < (10 ^ Int.toNat 60) ^ Int.toNat 5 := by decide +kernel
abbrev A__law_pot : AS := (aSeq (aSet 2 (aIf (aTest (aOp aLt (aVar 1) (aCall aLen (aCons (aVar 0) aNil)))) (aOp aIx (aVar 0) (aVar 1)) (aAdd (aAdd (aMod (aCall (aInts fSum) (aCons (aSlL (aVar 0) aNoP (aPart (aC (.int 1)))) aNil)) (aC (.int 1000003))) (aMul (aC (.int 1127)) (aVar 1))) (aC (.int 519)))))
  (aSeq (aSet 3 (aMul (aMod (aCall aInt (aCons (aCall (aI1 absI) (aCons (aVar 2) aNil)) aNil)) (aPowW (aPow (aC (.int 10)) (aC (.int 60))) (aC (.int 5)))) (aCall aInt (aCons (aOp aGe (aCall (aI1 absI) (aCons (aVar 2) aNil)) (aPow (aC (.int 10)) (aC (.int 18)))) aNil))))
  (aSeq (aSet 4 (aMod (aCall aInt (aCons (aVar 2) aNil)) (aC (.int 2305843009213693951))))
  (aRet (aLst (aCons (aVar 3) (aCons (aMod (aCall aInt (aCons (aAdd (aAdd (aMul (aVar 4) (aC (.int 73175))) (aMul (aMul (aC (.int 8105)) (aVar 1)) (aVar 1))) (aC (.int 478))) aNil)) (aC (.int 2305843009213693921))) (aCons (aC (.int 0)) aNil))))))))
theorem law__law_pot : ∀ ds Q, ds.length = 2 → S__law_pot ds Q → A__law_pot (endsD Q) (startS 5 (ds.map .pu)) := by
  intro ds Q hl h
  obtain ⟨ns, i, rfl, h0, h1, h2, h⟩ := h
  walk_at "d"
  rw [List.length_map]
  have i1 := mul_le (a := 8105) (b := i) (by decide) h0 (Int.le_refl _) h1
  refine ite2 (fun c => ?_) (fun c => ?_)
  · obtain ⟨d, e1, e2, e3⟩ := atI_in (ds := ns.map D.int) h0 (by rw [List.length_map]; exact c)
    rw [e1]
    obtain ⟨v, _, rfl⟩ := List.mem_map.mp e3
    have v0 := Int.emod_nonneg v (show (2305843009213693951 : Int) ≠ 0 by decide)
    have v1 := Int.emod_lt_of_pos v (show (0 : Int) < 2305843009213693951 by decide)
    exact ⟨⟨by decide, by decide, by decide⟩, cpw, big_pos, ⟨by decide, by decide, by decide⟩, cmul_r (by split <;> decide) (by split <;> decide), by decide, cmul_l v0 (by omega), cmul_l (by decide) (by decide), cmul_l i1.1 (by omega), by decide, by decide, fun p => h p _ ⟨_, _, _, rfl, own_nn _ _ (Int.ne_of_gt big_pos), Int.emod_nonneg _ (by decide), Int.emod_lt_of_pos _ (by decide), by decide, by decide⟩⟩
  · intro p
    have e := cutD_to (ns.map D.int) 1
    rw [show ((1 : Nat) : Int) = 1 from rfl, ← List.map_take] at e
    rw [e, aInts_lst]
    unfold fSum
    walk_at "d"
    generalize (List.take 1 ns).sum % 1000003 + 1127 * i + 519 = v
    have v0 := Int.emod_nonneg v (show (2305843009213693951 : Int) ≠ 0 by decide)
    have v1 := Int.emod_lt_of_pos v (show (0 : Int) < 2305843009213693951 by decide)
    exact ⟨by decide, cmul_l (by decide) (by decide), ⟨by decide, by decide, by decide⟩, cpw, big_pos, ⟨by decide, by decide, by decide⟩, cmul_r (by split <;> decide) (by split <;> decide), by decide, cmul_l v0 (by omega), cmul_l (by decide) (by decide), cmul_l i1.1 (by omega), by decide, by decide, fun p => h p _ ⟨_, _, _, rfl, own_nn _ _ (Int.ne_of_gt big_pos), Int.emod_nonneg _ (by decide), Int.emod_lt_of_pos _ (by decide), by decide, by decide⟩⟩
abbrev A__law_cells : AS := (aRet (aListRange1 (aCons (aCall (aI2 maxI) (aCons (aC (.int 1)) (aCons (aCall (aI2 minI) (aCons (aVar 1) (aCons (aCall aLen (aCons (aVar 0) aNil)) aNil))) aNil))) aNil)))
theorem law__law_cells : ∀ ds Q, ds.length = 2 → S__law_cells ds Q → A__law_cells (endsD Q) (startS 2 (ds.map .pu)) := by
  intro ds Q hl h
  obtain ⟨ns, i, rfl, h0, h1, h2, h⟩ := h
  walk_at "d"
  rw [List.length_map]
  have e : 0 ≤ maxI 1 (minI i ns.length) ∧ maxI 1 (minI i ns.length) ≤ i := by
    unfold maxI minI
    split <;> split <;> omega
  exact ⟨⟨e.1, by omega⟩, fun p => h p _ (by omega)⟩

/-! ### bases -/
def BasesOk (bs : List Int) : Prop := 1 ≤ bs.length ∧ bs.length ≤ 40 ∧ ∀ b ∈ bs, 2 ≤ b ∧ b ≤ 4
def wts : Int → List Int → List Int
  | w, [] => [w]
  | w, b :: bs => w :: wts (w * b) bs
def tupI (bs : List Int) : D := .tup (bs.map D.int)
def lstI (bs : List Int) : D := .lst (bs.map D.int)
/-- whether figures serve -/
def serveB (bs : List Int) (w : Str) (n : Int) : Bool :=
  if w = "queue" then decide (n = 1) || (bs.take (bs.length - 1)).all (fun b => decide (n ≤ b)) else decide (bs.length = 1) || (decide (n = 1) && decide (bs.length = 2))
def canB (w : Str) (n size x y d : Int) : Bool :=
  if max x y > size ∨ (n = 1 ∧ d = 0) then false else if w = "any" then decide (d + y - x ≠ 0) else if w = "order" then decide (1 ≤ d + y - x) else if n = 1 then decide (x = 0) && decide (y = 0) else decide (1 ≤ d + y - x) && decide (d + y - x ≤ n * d + n - 1)
/-- a pair that is led into one lane -/
def Clash (bs : List Int) (w : Str) (n x y d : Int) (k : Nat) : Prop := ∃ W V R b : Int, (wts 1 bs)[k]? = some W ∧ bs[k]? = some b ∧ (wts 1 bs)[bs.length]? = some R ∧ 0 < W ∧ W < 2 ^ 80 ∧
  0 ≤ x ∧ x < R ∧ 0 ≤ y ∧ y < R ∧ 0 ≤ d ∧ d < R ∧ canB w n (R - 1) x y d = true ∧ d + y % W = x % W ∧ x / W % b = y / W % b ∧ V = W
def GoodR (bs : List Int) (w : Str) (n : Int) (r : D) : Prop := (serveB bs w n = true ∧ r = .non) ∨ (serveB bs w n = false ∧ ∃ (x y d : Int) (k : Nat), r = .tup [.int x, .int y, .int d, .int k] ∧ k < bs.length ∧ Clash bs w n x y d k)
def S_check_bases : ARC := fun ds P => ∃ bs, ds = [tupI bs] ∧ BasesOk bs ∧ P (.pu .non)
def S_weights_of : ARC := fun ds P => ∃ bs, ds = [tupI bs] ∧ BasesOk bs ∧ P (.pu (lstI (wts 1 bs)))
def S__law_weights : ARC := S_weights_of
def S_clash_of : ARC := fun ds P => ∃ bs w n, ds = [tupI bs, .tup [.str w, .int n]] ∧ BasesOk bs ∧ WordOk w ∧ 1 ≤ n ∧ n ≤ 4 ∧ ∀ r, GoodR bs w n r → P (.pu r)
def S_figures_clash : ARC := S_clash_of
def S__law_can_be : ARC := fun ds P => ∃ w n size x y d, ds = [.tup [.str w, .int n], .int size, .tup [.int x, .int y, .int d]] ∧ WordOk w ∧ 1 ≤ n ∧ n ≤ 4 ∧ 0 ≤ d ∧ P (.pu (.bl (canB w n size x y d)))
def S__law_does_figure_serve : ARC := fun ds P => ∃ bs w n, ds = [tupI bs, .tup [.str w, .int n]] ∧ BasesOk bs ∧ WordOk w ∧ 1 ≤ n ∧ n ≤ 4 ∧ P (.pu (.bl (serveB bs w n)))
def S__law_is_clash : ARC := fun ds P => ∃ bs w n x y d, ∃ k : Nat, ds = [tupI bs, .tup [.str w, .int n], .tup [.int x, .int y, .int d, .int k]] ∧ BasesOk bs ∧ WordOk w ∧ 1 ≤ n ∧ n ≤ 4 ∧ k < bs.length ∧ Clash bs w n x y d k ∧ P (.pu (.bl true))
def S__law_right : ARM := fun xs ds P => ds = [] ∧ Pot 0 xs ∧ ∀ xs', P (.pu (.bl true)) xs'
abbrev S_law : ARC := SLaw
end K26

namespace K26
open PySem L2 DL
local macro_rules | `(tactic| walk_at "d") => `(tactic| try simp only [aSeq, aSet, aVar, aMov, aC, aOp, aI, aIC, aB, aAnd, aOr, aNot, aTest, aIf, aAndV, aOrV, aNotV, aChain, aIsi, aCall, aCons, aNil, aRet, aRetN, aNext, aDrop, aIfS, aNev, aFn, aTup, aLst, aNeg, aIx, aIn, aEq, aNe, aIsN, aNotN, aAsg, agTup, agCons, agNil, agName, aPar, aAug, aInt, aI1, aI2, aLen, aPart, aNoP, aSlT, aSlL, aIxO, aApp, aPut, aCallM, aCallT, aYes, aLc, aItL, aItT, aRng1, aFor, wipeS, aTupl, aList, aListRange1, aLt, aLe, aGt, aGe,
  Sl.d, endsD, endsM, startS, List.map, List.length_cons, List.length_nil, List.length_replicate, List.length_append, List.cons_append, List.nil_append, List.replicate, List.getElem?_cons_zero, List.getElem?_cons_succ, List.getElem?_nil, List.set_cons_zero, List.set_cons_succ, List.set_nil, Nat.zero_add, Nat.reduceAdd, Nat.reduceSub, seqD, lstD, isi, isN, eqS, flatD, if_true, if_false, ite_true, ite_false, reduceIte, Bool.false_eq_true, true_and, and_true, reduceCtorEq, at3_0, at3_1, at3_2, ix3_0, ix3_2, dec_t, Bool.not_true, Bool.not_false])
theorem wts_len : ∀ (bs : List Int) (w : Int), (wts w bs).length = bs.length + 1
  | [], w => rfl
  | b :: bs, w => by
    show (wts (w * b) bs).length + 1 = bs.length + 1 + 1
    rw [wts_len bs]
theorem wts_pos : ∀ (bs : List Int) (w : Int), (∀ b ∈ bs, 2 ≤ b ∧ b ≤ 4) → 0 < w → ∀ x ∈ wts w bs, 0 < x
  | [], w, h, hw, x, hx => by
    rw [List.mem_singleton.mp hx]
    exact hw
  | b :: bs, w, h, hw, x, hx => by
    rcases List.mem_cons.mp hx with e | hx
    · rw [e]
      exact hw
    · have hb := (h b List.mem_cons_self).1
      exact wts_pos bs (w * b) (fun c hc => h c (List.mem_cons_of_mem _ hc)) (Int.mul_pos hw (by omega)) x hx
/-- the next weight -/
theorem wts_next : ∀ (bs : List Int) (w : Int) (k : Nat) (b : Int), bs[k]? = some b → ∃ x, (wts w bs)[k]? = some x ∧ (wts w bs)[k + 1]? = some (x * b)
  | [], w, k, b, h => by simp at h
  | c :: bs, w, 0, b, h => by
    have e : c = b := by simpa using h
    subst e
    refine ⟨w, rfl, ?_⟩
    cases bs <;> rfl
  | c :: bs, w, k + 1, b, h => by
    obtain ⟨x, h1, h2⟩ := wts_next bs (w * c) k b (by simpa using h)
    exact ⟨x, by simpa [wts] using h1, by simpa [wts] using h2⟩
/-- weights grow -/
theorem wts_le : ∀ (bs : List Int) (w : Int), (∀ b ∈ bs, 2 ≤ b ∧ b ≤ 4) → 0 < w → ∀ (j : Nat) (x : Int), (wts w bs)[j]? = some x → w ≤ x ∧ x ≤ w * 4 ^ j
  | [], w, h, hw, j, x, e => by
    cases j with
    | zero =>
      have e : w = x := by simpa [wts] using e
      subst e
      omega
    | succ j => simp [wts] at e
  | b :: bs, w, h, hw, 0, x, e => by
    have e : w = x := by simpa [wts] using e
    subst e
    omega
  | b :: bs, w, h, hw, j + 1, x, e => by
    obtain ⟨hb, hb2⟩ := h b List.mem_cons_self
    have hp : 0 < w * b := Int.mul_pos hw (by omega)
    obtain ⟨h1, h2⟩ := wts_le bs (w * b) (fun c hc => h c (List.mem_cons_of_mem _ hc)) hp j x (by simpa [wts] using e)
    have h3 : w * 1 ≤ w * b := Int.mul_le_mul_of_nonneg_left (by omega) (by omega)
    have h4 : w * b ≤ w * 4 := Int.mul_le_mul_of_nonneg_left hb2 (by omega)
    have hq : (0 : Int) ≤ 4 ^ j := by
      have : (0 : Int) < 4 ^ j := Int.pow_pos (by decide)
      omega
    have h5 : w * b * 4 ^ j ≤ w * 4 * 4 ^ j := Int.mul_le_mul_of_nonneg_right h4 hq
    refine ⟨by omega, ?_⟩
    rw [Int.pow_succ]
    have h6 : w * 4 * 4 ^ j = w * (4 ^ j * 4) := by rw [Int.mul_assoc, Int.mul_comm 4]
    omega
theorem wts_drop : ∀ (bs : List Int) (w : Int) (k : Nat) (x : Int), (wts w bs)[k]? = some x → (wts w bs).drop k = wts x (bs.drop k)
  | [], w, 0, x, e => by
    have e : w = x := by simpa [wts] using e
    subst e
    rfl
  | [], w, k + 1, x, e => by simp [wts] at e
  | b :: bs, w, 0, x, e => by
    have e : w = x := by simpa [wts] using e
    subst e
    rfl
  | b :: bs, w, k + 1, x, e => by
    have := wts_drop bs (w * b) k x (by simpa [wts] using e)
    simpa [wts] using this
theorem lastI (xs : List D) (h : xs ≠ []) : ∃ d, atI xs (-1) = some d ∧ xs[xs.length - 1]? = some d := by
  have hp : 0 < xs.length := List.length_pos_iff.mpr h
  refine ⟨xs[xs.length - 1]'(by omega), ?_, List.getElem?_eq_getElem (by omega)⟩
  unfold atI ixN
  rw [if_neg (by decide), if_pos (by omega)]
  show xs[(-1 + (xs.length : Int)).toNat]? = _
  rw [show (-1 + (xs.length : Int)).toNat = xs.length - 1 by omega]
  exact List.getElem?_eq_getElem (by omega)
abbrev A_weights_of : AS := (aSeq (aSet 1 (aLst (aCons (aC (.int 1)) aNil)))
  (aSeq (aFor (aItT (aVar 0)) (agName 2) (aApp 1 (aMul (aIxO 1 (aNeg (aC (.int 1)))) (aVar 2))))
  (aRet (aVar 1))))
/-- the loop that reckons the weights -/
theorem weights_loop (A : AEnds) (p : Addr) (t : D) (l : Sl) : ∀ (bs : List Int) (acc : List Int) (w : Int) (c : Sl), (∀ b ∈ bs, 2 ≤ b ∧ b ≤ 4) → acc.length + bs.length ≤ 50 →
    (∀ c', A.nx [.pu t, .ow p ((acc ++ wts w bs).map D.int), c']) →
    aForD (agName 2) (aApp 1 (aMul (aIxO 1 (aNeg (aC (.int 1)))) (aVar 2))) A (bs.map D.int) [.pu t, .ow p ((acc ++ [w]).map D.int), c]
  | [], acc, w, c, hb, hl, h => h c
  | b :: bs, acc, w, c, hb, hl, h => by
    have hb0 := hb b List.mem_cons_self
    rw [List.map_cons]
    unfold aForD
    walk_at "d"
    have hne : (acc ++ [w]).map D.int ≠ [] := by simp
    obtain ⟨d, e1, e2⟩ := lastI _ hne
    have ed : d = .int w := by
      rw [List.length_map, List.length_append, List.getElem?_map] at e2
      simp at e2
      exact e2.symm
    subst ed
    rw [e1]
    refine ⟨cmul_r (by omega) (by omega), by simp only [List.length_map, List.length_append, List.length_cons, List.length_nil] at hl ⊢; omega, ?_⟩
    have ih := weights_loop A p t l bs (acc ++ [w]) (w * b) (.pu (.int b)) (fun c hc => hb c (List.mem_cons_of_mem _ hc)) (by simp only [List.length_append, List.length_cons, List.length_nil] at hl ⊢; omega) (fun c' => by
      have := h c'
      rw [show acc ++ [w] ++ wts (w * b) bs = acc ++ wts w (b :: bs) by simp [wts]]
      exact this)
    have e3 : (acc ++ [w]).map D.int ++ [D.int (w * b)] = (acc ++ [w] ++ [w * b]).map D.int := by simp
    rw [e3]
    exact ih
theorem law_weights_of : ∀ ds Q, ds.length = 1 → S_weights_of ds Q → A_weights_of (endsD Q) (startS 3 (ds.map .pu)) := by
  intro ds Q hl h
  obtain ⟨bs, rfl, ⟨h1, h2, h3⟩, h⟩ := h
  unfold tupI
  walk_at "d"
  refine ⟨by decide, fun p => ?_⟩
  exact weights_loop _ p (tupI bs) .no bs [] 1 .no h3 (by simp only [List.length_nil]; omega) fun c' => h
abbrev A__law_weights : AS := (aSeq (aSet 1 (aLst (aCons (aC (.int 1)) aNil)))
  (aSeq (aFor (aItT (aVar 0)) (agName 2) (aApp 1 (aMul (aIxO 1 (aNeg (aC (.int 1)))) (aVar 2))))
  (aRet (aVar 1))))
theorem law__law_weights : ∀ ds Q, ds.length = 1 → S__law_weights ds Q → A__law_weights (endsD Q) (startS 3 (ds.map .pu)) := by
  exact law_weights_of
end K26

namespace K26
open PySem L2 DL
local macro_rules | `(tactic| walk_at "d") => `(tactic| try simp only [aSeq, aSet, aVar, aMov, aC, aOp, aI, aIC, aB, aAnd, aOr, aNot, aTest, aIf, aAndV, aOrV, aNotV, aChain, aIsi, aCall, aCons, aNil, aRet, aRetN, aNext, aDrop, aIfS, aNev, aFn, aTup, aLst, aNeg, aIx, aIn, aEq, aNe, aIsN, aNotN, aAsg, agTup, agCons, agNil, agName, aPar, aAug, aInt, aI1, aI2, aLen, aPart, aNoP, aSlT, aSlL, aIxO, aApp, aPut, aCallM, aCallT, aYes, aLc, aItL, aItT, aRng1, aFor, wipeS, aTupl, aList, aListRange1, aLt, aLe, aGt, aGe,
  Sl.d, endsD, endsM, startS, List.map, List.length_cons, List.length_nil, List.length_replicate, List.length_append, List.cons_append, List.nil_append, List.replicate, List.getElem?_cons_zero, List.getElem?_cons_succ, List.getElem?_nil, List.set_cons_zero, List.set_cons_succ, List.set_nil, Nat.zero_add, Nat.reduceAdd, Nat.reduceSub, seqD, lstD, isi, isN, eqS, flatD, if_true, if_false, ite_true, ite_false, reduceIte, Bool.false_eq_true, true_and, and_true, reduceCtorEq, at2_0, at2_1, at3_0, at3_1, at3_2, ix3_0, ix3_2, dec_t, Bool.not_true, Bool.not_false])
abbrev A_is_service : AS := (aSeq (aIfS (aOr (aNot (aTest (aIsi .tuple (aVar 0)))) (aOr (aTest (aOp aNe (aCall aLen (aCons (aVar 0) aNil)) (aC (.int 2)))) (aOr (aNot (aTest (aIsi .str (aOp aIx (aVar 0) (aC (.int 0)))))) (aTest (aOp (aIn true) (aOp aIx (aVar 0) (aC (.int 0))) (aC (.tup [.str "queue", .str "order", .str "any"]))))))) (aRet (aC (.bl false))) aNext)
  (aRet (aCall (aFn 3 S_is_within) (aCons (aOp aIx (aVar 0) (aC (.int 1))) (aCons (aC (.int 1)) (aCons (aC (.int 4)) aNil))))))
theorem law_is_service : ∀ ds Q, ds.length = 1 → S_is_service ds Q → A_is_service (endsD Q) (startS 1 (ds.map .pu)) := by
  intro ds Q hl h
  obtain ⟨w, n, rfl, hw, h0, h1, h⟩ := h
  walk_at "d"
  have e : inF (D.str w) [D.str "queue", D.str "order", D.str "any"] = true := by
    rcases hw with rfl | rfl | rfl <;> decide +kernel
  have e2 : withinD (D.int n) 1 4 = true := by
    show (decide (1 ≤ n) && decide (n ≤ 4)) = true
    simp [h0, h1]
  rw [e]
  refine ite2 (fun c => absurd c (by decide)) fun _ => ⟨by decide, ?_⟩
  exact ⟨_, _, _, rfl, trivial, by rw [e2]; exact h⟩
abbrev A_check_service : AS := (aIfS (aNot (aTest (aCall (aFn 1 S_is_service) (aCons (aVar 0) aNil)))) aNev aNext)
theorem law_check_service : ∀ ds Q, ds.length = 1 → S_check_service ds Q → A_check_service (endsD Q) (startS 1 (ds.map .pu)) := by
  intro ds Q hl h
  obtain ⟨w, n, rfl, hw, h0, h1, h⟩ := h
  walk_at "d"
  refine ⟨w, n, rfl, hw, h0, h1, ?_⟩
  walk_at "d"
  exact h
theorem all_bl {α : Type} (f : α → Bool) : ∀ (l : List α), (∀ x ∈ l, f x = true) → (l.map f).all id = true
  | [], _ => rfl
  | x :: l, h => by
    rw [List.map_cons, List.all_cons, all_bl f l fun y hy => h y (List.mem_cons_of_mem _ hy)]
    simp [h x List.mem_cons_self]
abbrev A_check_bases : AS := (aSeq (aIfS (aOr (aNot (aTest (aIsi .tuple (aVar 0)))) (aNot (aTest (aChain aLe aLe (aC (.int 1)) (aCall aLen (aCons (aVar 0) aNil)) (aC (.int 40)))))) aNev aNext)
  (aIfS (aNot (aTest (aCall (aBls fun bs => bs.all id) (aCons (aLc (aItT (aVar 0)) (agName 1) aYes (aCall (aFn 3 S_is_within) (aCons (aVar 1) (aCons (aC (.int 2)) (aCons (aC (.int 4)) aNil)))) [1]) aNil)))) aNev aNext))
theorem law_check_bases : ∀ ds Q, ds.length = 1 → S_check_bases ds Q → A_check_bases (endsD Q) (startS 2 (ds.map .pu)) := by
  intro ds Q hl h
  obtain ⟨bs, rfl, ⟨h1, h2, h3⟩, h⟩ := h
  unfold tupI
  walk_at "d"
  rw [List.length_map, if_pos (by omega), decide_eq_true (show (bs.length : Int) ≤ 40 by omega)]
  walk_at "d"
  intro p
  refine lc_pure (i := 1) rfl (fun d => .bl (withinD d 2 4)) _ [] _ (fun d hd R hR => ?_) (by simp; omega) ?_
  · obtain ⟨b, _, rfl⟩ := List.mem_map.mp hd
    walk_at "d"
    exact ⟨_, _, _, rfl, trivial, hR⟩
  · have e : (bs.map D.int).map (fun d => D.bl (withinD d 2 4)) = (bs.map fun b => withinD (.int b) 2 4).map D.bl := by
      rw [List.map_map, List.map_map]
      rfl
    rw [List.nil_append, e]
    walk_at "d"
    rw [aBls_lst, all_bl _ _ fun b hb => by
      have := h3 b hb
      show (decide (2 ≤ b) && decide (b ≤ 4)) = true
      simp [this.1, this.2]]
    walk_at "d"
    exact h
abbrev A__law_can_be : AS := (aSeq (aAsg (aVar 2) (agTup (agCons (agName 3) (agCons (agName 4) (agCons (agName 5) agNil)))))
  (aSeq (aAsg (aVar 0) (agTup (agCons (agName 6) (agCons (agName 7) agNil))))
  (aSeq (aIfS (aOr (aTest (aOp aGt (aCall (aI2 maxI) (aCons (aVar 3) (aCons (aVar 4) aNil))) (aVar 1))) (aAnd (aTest (aOp aEq (aVar 7) (aC (.int 1)))) (aTest (aOp aEq (aVar 5) (aC (.int 0)))))) (aRet (aC (.bl false))) aNext)
  (aSeq (aSet 8 (aSub (aAdd (aVar 5) (aVar 4)) (aVar 3)))
  (aSeq (aIfS (aTest (aOp aEq (aVar 6) (aC (.str "any")))) (aRet (aOp aNe (aVar 8) (aC (.int 0)))) aNext)
  (aSeq (aIfS (aTest (aOp aEq (aVar 6) (aC (.str "order")))) (aRet (aOp aGe (aVar 8) (aC (.int 1)))) aNext)
  (aRet (aIf (aTest (aOp aEq (aVar 7) (aC (.int 1)))) (aAndV (aOp aEq (aVar 3) (aC (.int 0))) (aOp aEq (aVar 4) (aC (.int 0)))) (aChain aLe aLe (aC (.int 1)) (aVar 8) (aSub (aAdd (aMul (aVar 7) (aVar 5)) (aVar 7)) (aC (.int 1))))))))))))
theorem law__law_can_be : ∀ ds Q, ds.length = 3 → S__law_can_be ds Q → A__law_can_be (endsD Q) (startS 9 (ds.map .pu)) := by
  intro ds Q hl h
  obtain ⟨w, n, size, x, y, d, rfl, hw, h0, h1, h2, h⟩ := h
  walk_at "d"
  have em : (size < maxI x y) ↔ (max x y > size) := by
    unfold maxI
    constructor
    · intro q
      split at q <;> omega
    · intro q
      split <;> omega
  unfold canB at h
  by_cases c1 : max x y > size
  · rw [if_pos (.inl c1)] at h
    rw [if_pos (em.mpr c1)]
    exact h
  · rw [if_neg fun q => c1 (em.mp q)]
    by_cases c2 : n = 1
    · by_cases c3 : d = 0
      · rw [if_pos (.inr ⟨c2, c3⟩)] at h
        rw [if_pos c2, if_pos c3]
        exact h
      · rw [if_neg fun q => q.elim c1 fun q => c3 q.2] at h
        rw [if_pos c2, if_neg c3]
        by_cases c4 : w = "any"
        · rw [if_pos c4] at h ⊢
          simpa using h
        · rw [if_neg c4] at h ⊢
          by_cases c5 : w = "order"
          · rw [if_pos c5] at h ⊢
            exact h
          · rw [if_neg c5, if_pos c2] at h ⊢
            by_cases c6 : x = 0
            · rw [decide_eq_true c6, Bool.true_and] at h
              rw [if_pos c6]
              exact h
            · rw [decide_eq_false c6, Bool.false_and] at h
              rw [if_neg c6]
              exact h
    · rw [if_neg fun q => q.elim c1 fun q => c2 q.1] at h
      rw [if_neg c2]
      by_cases c4 : w = "any"
      · rw [if_pos c4] at h ⊢
        simpa using h
      · rw [if_neg c4] at h ⊢
        by_cases c5 : w = "order"
        · rw [if_pos c5] at h ⊢
          exact h
        · rw [if_neg c5, if_neg c2] at h ⊢
          by_cases c6 : 1 ≤ d + y - x
          · rw [decide_eq_true c6, Bool.true_and] at h
            rw [if_pos c6]
            exact ⟨cmul_l (by omega) (by omega), h⟩
          · rw [decide_eq_false c6, Bool.false_and] at h
            rw [if_neg c6]
            exact h
abbrev A__law_does_figure_serve : AS := (aSeq (aAsg (aVar 1) (agTup (agCons (agName 2) (agCons (agName 3) agNil))))
  (aSeq (aIfS (aTest (aOp aEq (aVar 2) (aC (.str "queue")))) (aRet (aOrV (aOp aEq (aVar 3) (aC (.int 1))) (aCall (aBls fun bs => bs.all id) (aCons (aLc (aItT (aSlT (aVar 0) aNoP (aPart (aNeg (aC (.int 1)))))) (agName 4) aYes (aOp aLe (aVar 3) (aVar 4)) [4]) aNil)))) aNext)
  (aRet (aOrV (aOp aEq (aCall aLen (aCons (aVar 0) aNil)) (aC (.int 1))) (aAndV (aOp aEq (aVar 3) (aC (.int 1))) (aOp aEq (aCall aLen (aCons (aVar 0) aNil)) (aC (.int 2))))))))
theorem law__law_does_figure_serve : ∀ ds Q, ds.length = 2 → S__law_does_figure_serve ds Q → A__law_does_figure_serve (endsD Q) (startS 5 (ds.map .pu)) := by
  intro ds Q hl h
  obtain ⟨bs, w, n, rfl, ⟨h1, h2, h3⟩, hw, h4, h5, h⟩ := h
  unfold tupI
  walk_at "d"
  unfold serveB at h
  by_cases c1 : w = "queue"
  · rw [if_pos c1] at h ⊢
    by_cases c2 : n = 1
    · rw [decide_eq_true c2, Bool.true_or] at h
      rw [if_pos c2]
      exact h
    · rw [decide_eq_false c2, Bool.false_or] at h
      rw [if_neg c2]
      intro p
      rw [cutD_last, List.length_map, ← List.map_take]
      refine lc_pure (i := 4) rfl (fun d => .bl (match d with | .int b => decide (n ≤ b) | _ => false)) _ [] _ (fun d hd R hR => ?_) (by simp; omega) ?_
      · obtain ⟨b, _, rfl⟩ := List.mem_map.mp hd
        walk_at "d"
        exact hR
      · rw [List.nil_append, List.map_map]
        have e : List.map ((fun d => D.bl (match d with | .int b => decide (n ≤ b) | _ => false)) ∘ D.int) (bs.take (bs.length - 1)) = ((bs.take (bs.length - 1)).map fun b => decide (n ≤ b)).map D.bl := by
          rw [List.map_map]
          rfl
        rw [e]
        walk_at "d"
        rw [aBls_lst, List.all_map]
        exact h
  · rw [if_neg c1] at h ⊢
    rw [List.length_map]
    by_cases c2 : bs.length = 1
    · rw [decide_eq_true c2, Bool.true_or] at h
      rw [if_pos (by omega)]
      exact h
    · rw [decide_eq_false c2, Bool.false_or] at h
      rw [if_neg (by omega)]
      by_cases c3 : n = 1
      · rw [decide_eq_true c3, Bool.true_and] at h
        rw [if_pos c3, show decide ((bs.length : Int) = 2) = decide (bs.length = 2) from decide_eq_decide.mpr (by omega)]
        exact h
      · rw [decide_eq_false c3, Bool.false_and] at h
        rw [if_neg c3]
        exact h
end K26

namespace K26
open PySem L2 DL
local macro_rules | `(tactic| walk_at "d") => `(tactic| try simp only [aSeq, aSet, aVar, aMov, aC, aOp, aI, aIC, aB, aAnd, aOr, aNot, aTest, aIf, aAndV, aOrV, aNotV, aChain, aIsi, aCall, aCons, aNil, aRet, aRetN, aNext, aDrop, aIfS, aNev, aFn, aTup, aLst, aNeg, aIx, aIn, aEq, aNe, aIsN, aNotN, aAsg, agTup, agCons, agNil, agName, aPar, aAug, aInt, aI1, aI2, aLen, aPart, aNoP, aSlT, aSlL, aIxO, aApp, aPut, aCallM, aCallT, aYes, aLc, aItL, aItT, aRng1, aFor, wipeS, aTupl, aList, aListRange1, aLt, aLe, aGt, aGe,
  Sl.d, endsD, endsM, startS, List.map, List.length_cons, List.length_nil, List.length_replicate, List.length_append, List.cons_append, List.nil_append, List.replicate, List.getElem?_cons_zero, List.getElem?_cons_succ, List.getElem?_nil, List.set_cons_zero, List.set_cons_succ, List.set_nil, Nat.zero_add, Nat.reduceAdd, Nat.reduceSub, seqD, lstD, isi, isN, eqS, flatD, if_true, if_false, ite_true, ite_false, reduceIte, Bool.false_eq_true, true_and, and_true, reduceCtorEq, at2_0, at2_1, at3_0, at3_1, at3_2, ix3_0, ix3_2, dec_t, Bool.not_true, Bool.not_false])
theorem wts_some (bs : List Int) (j : Nat) (h : j ≤ bs.length) : ∃ x, (wts 1 bs)[j]? = some x := by
  have hl := wts_len bs 1
  exact ⟨_, List.getElem?_eq_getElem (by omega)⟩
theorem wts_two (bs : List Int) (hb : ∀ b ∈ bs, 2 ≤ b ∧ b ≤ 4) (j l : Nat) (x y : Int) (hj : j < l) (hl : l ≤ bs.length) (hx : (wts 1 bs)[j]? = some x) (hy : (wts 1 bs)[l]? = some y) : 0 < x ∧ x * 2 ≤ y := by
  have x0 := wts_pos bs 1 hb (by decide) x (List.mem_of_getElem? hx)
  refine ⟨x0, ?_⟩
  have e := wts_drop bs 1 j x hx
  have hy2 : (wts x (bs.drop j))[l - j]? = some y := by
    rw [← e, List.getElem?_drop, show j + (l - j) = l by omega]
    exact hy
  have hd : bs.drop j = bs[j] :: bs.drop (j + 1) := List.drop_eq_getElem_cons (by omega)
  rw [hd] at hy2
  obtain ⟨i, hi⟩ : ∃ i, l - j = i + 1 := ⟨l - j - 1, by omega⟩
  rw [hi] at hy2
  have hy3 : (wts (x * bs[j]) (bs.drop (j + 1)))[i]? = some y := by simpa [wts] using hy2
  have b2 := (hb bs[j] (List.getElem_mem _)).1
  have hp : 0 < x * bs[j] := Int.mul_pos x0 (by omega)
  have h1 := (wts_le _ (x * bs[j]) (fun c hc => hb c (List.mem_of_mem_drop hc)) hp i y hy3).1
  have h2 : x * 2 ≤ x * bs[j] := Int.mul_le_mul_of_nonneg_left b2 (by omega)
  omega
theorem clash_gen {bs : List Int} (hb : BasesOk bs) {w : Str} {n W b : Int} {k : Nat} (hk : k + 1 < bs.length) (hW : (wts 1 bs)[k]? = some W) (hB : bs[k]? = some b)
    (hc : ∀ R, W * b < R → canB w n (R - 1) (W - 1) (W * b) (W - 1) = true) : Clash bs w n (W - 1) (W * b) (W - 1) k := by
  obtain ⟨h1, h2, h3⟩ := hb
  obtain ⟨R, hR⟩ := wts_some bs bs.length (Nat.le_refl _)
  obtain ⟨W', e1, e2⟩ := wts_next bs 1 k b hB
  rw [hW] at e1
  cases e1
  have b2 := h3 b (List.mem_of_getElem? hB)
  obtain ⟨p1, p2⟩ := wts_two bs h3 (k + 1) bs.length (W * b) R (by omega) (Nat.le_refl _) e2 hR
  obtain ⟨p3, p4⟩ := wts_two bs h3 k bs.length W R (by omega) (Nat.le_refl _) hW hR
  have hm := (wts_le bs 1 h3 (by decide) k W hW).2
  have hk39 : (4 : Int) ^ k ≤ 4 ^ 39 := by
    have : (4 : Nat) ^ k ≤ 4 ^ 39 := Nat.pow_le_pow_right (by decide) (by omega)
    exact_mod_cast this
  have h80 : W < 2 ^ 80 := by
    have e : (1 : Int) * 4 ^ k = 4 ^ k := Int.one_mul _
    have : (4 : Int) ^ 39 < 2 ^ 80 := by decide
    omega
  refine ⟨W, W, R, b, hW, hB, hR, p3, h80, by omega, by omega, by omega, by omega, by omega, by omega, hc R (by omega), ?_, ?_, rfl⟩
  · rw [Int.mul_emod_right, Int.add_zero, Int.emod_eq_of_lt (by omega) (by omega)]
  · rw [Int.ediv_eq_zero_of_lt (by omega) (by omega), Int.mul_ediv_cancel_left _ (by omega), Int.emod_self, Int.zero_emod]
theorem q_any : ¬ (("queue" : Str) = "any") := by decide +kernel
theorem q_order : ¬ (("queue" : Str) = "order") := by decide +kernel
/-- a queue's clash -/
theorem clash_q {bs : List Int} (hb : BasesOk bs) {n W b : Int} {k : Nat} (hk : k + 1 < bs.length) (hW : (wts 1 bs)[k]? = some W) (hB : bs[k]? = some b) (hn : b < n) : Clash bs "queue" n (W - 1) (W * b) (W - 1) k := by
  have b2 := hb.2.2 b (List.mem_of_getElem? hB)
  have w0 := wts_pos bs 1 hb.2.2 (by decide) W (List.mem_of_getElem? hW)
  refine clash_gen hb hk hW hB fun R hR => ?_
  have m1 : W * b ≥ W * 2 := Int.mul_le_mul_of_nonneg_left b2.1 (by omega)
  have m2 : (b + 1) * W ≤ n * W := Int.mul_le_mul_of_nonneg_right (by omega) (by omega)
  have m3 : (b + 1) * W = W * b + W := by rw [Int.add_mul, Int.one_mul, Int.mul_comm]
  have m4 : n * (W - 1) = n * W - n := by rw [Int.mul_sub, Int.mul_one]
  unfold canB
  rw [if_neg (by omega), if_neg q_any, if_neg q_order, if_neg (by omega), decide_eq_true (by omega), decide_eq_true (by omega)]
  rfl
/-- another service's clash -/
theorem clash_o {bs : List Int} (hb : BasesOk bs) {w : Str} {n W b : Int} {k : Nat} (hw : w = "any" ∨ w = "order") (hk : k + 1 < bs.length) (hW : (wts 1 bs)[k]? = some W) (hB : bs[k]? = some b) (hn : n = 1 → 1 < W) : Clash bs w n (W - 1) (W * b) (W - 1) k := by
  have b2 := hb.2.2 b (List.mem_of_getElem? hB)
  have w0 := wts_pos bs 1 hb.2.2 (by decide) W (List.mem_of_getElem? hW)
  refine clash_gen hb hk hW hB fun R hR => ?_
  have m1 : W * b ≥ W * 2 := Int.mul_le_mul_of_nonneg_left b2.1 (by omega)
  unfold canB
  rw [if_neg (by omega)]
  rcases hw with rfl | rfl
  · rw [if_pos rfl, decide_eq_true (by omega)]
  · rw [if_neg (by decide +kernel), if_pos rfl, decide_eq_true (by omega)]
theorem wts_zero (bs : List Int) : (wts 1 bs)[0]? = some 1 := by cases bs <;> rfl
abbrev A_clash_of : AS := (aSeq (aAsg (aTup (aCons (aCall (aFn 1 S_weights_of) (aCons (aVar 0) aNil)) (aCons (aVar 1) aNil))) (agTup (agCons (agName 2) (agCons (agTup (agCons (agName 3) (agCons (agName 4) agNil))) agNil))))
  (aSeq (aFor (aRng1 (aCons (aSub (aCall aLen (aCons (aVar 0) aNil)) (aC (.int 1))) aNil)) (agName 5) (aSeq (aIfS (aOr (aAnd (aTest (aOp aEq (aVar 3) (aC (.str "queue")))) (aTest (aOp aGt (aVar 4) (aOp aIx (aVar 0) (aVar 5))))) (aAnd (aTest (aOp aNe (aVar 3) (aC (.str "queue")))) (aAnd (aTest (aOp aEq (aVar 4) (aC (.int 1)))) (aTest (aOp aGt (aVar 5) (aC (.int 0))))))) (aRet (aTup (aCons (aSub (aOp aIx (aVar 2) (aVar 5)) (aC (.int 1))) (aCons (aOp aIx (aVar 2) (aAdd (aVar 5) (aC (.int 1)))) (aCons (aSub (aOp aIx (aVar 2) (aVar 5)) (aC (.int 1))) (aCons (aVar 5) aNil)))))) aNext)
  (aIfS (aAnd (aTest (aOp aNe (aVar 3) (aC (.str "queue")))) (aTest (aOp aGt (aVar 4) (aC (.int 1))))) (aRet (aTup (aCons (aC (.int 0)) (aCons (aOp aIx (aVar 2) (aAdd (aVar 5) (aC (.int 1)))) (aCons (aC (.int 0)) (aCons (aVar 5) aNil)))))) aNext)))
  (aRet (aC .non))))
theorem law_clash_of : ∀ ds Q, ds.length = 2 → S_clash_of ds Q → A_clash_of (endsD Q) (startS 6 (ds.map .pu)) := by
  intro ds Q hl h
  obtain ⟨bs, w, n, rfl, hb, hw, h4, h5, h⟩ := h
  have hb' := hb
  obtain ⟨h1, h2, h3⟩ := hb
  walk_at "d"
  refine ⟨_, rfl, hb', by decide, ?_⟩
  walk_at "d"
  unfold tupI lstI
  walk_at "d"
  rw [List.length_map]
  refine ⟨by omega, by omega, ?_⟩
  rw [rngD_K]
  refine for_inv (fun ds s => ∃ (k : Nat) (c : Sl), k ≤ bs.length - 1 ∧ ds = rngK k (bs.length - 1 - k) ∧ s = [.pu (.tup (bs.map D.int)), .pu (.tup [.str w, .int n]), .pu (.lst ((wts 1 bs).map D.int)), .pu (.str w), .pu (.int n), c] ∧
    (w = "queue" → ∀ (j : Nat) (b : Int), j < k → bs[j]? = some b → n ≤ b) ∧ (w ≠ "queue" → 0 < k → n = 1 ∧ k ≤ 1)) _ _ ⟨0, .no, by omega, by rw [show ((bs.length : Int) - 1).toNat = bs.length - 1 - 0 by omega], rfl, fun _ j b hj _ => by omega, fun _ hk => by omega⟩ ?_ ?_
  · rintro s ⟨k, c, hk, hd, rfl, hq, ho⟩
    have hk2 : bs.length - 1 - k = 0 := by
      have := congrArg List.length hd
      rw [rngK_len] at this
      exact this.symm
    have hk3 : k = bs.length - 1 := by omega
    subst hk3
    walk_at "d"
    refine h _ (.inl ⟨?_, rfl⟩)
    unfold serveB
    by_cases c1 : w = "queue"
    · rw [if_pos c1, Bool.or_eq_true]
      refine .inr (List.all_eq_true.mpr fun x hx => decide_eq_true ?_)
      obtain ⟨i, hi, e⟩ := List.getElem_of_mem hx
      rw [List.length_take] at hi
      refine hq c1 i x (by omega) ?_
      rw [← e, List.getElem_take]
      exact List.getElem?_eq_getElem _
    · rw [if_neg c1]
      by_cases c2 : bs.length = 1
      · rw [decide_eq_true c2]
        rfl
      · obtain ⟨g1, g2⟩ := ho c1 (by omega)
        rw [decide_eq_true g1, decide_eq_true (show bs.length = 2 by omega), Bool.or_eq_true]
        exact .inr rfl
  · rintro d ds s ⟨k, c, hk, hd, rfl, hq, ho⟩ B hB
    obtain ⟨m, hm⟩ : ∃ m, bs.length - 1 - k = m + 1 := by
      cases e : bs.length - 1 - k with
      | zero =>
        rw [e, rngK_zero] at hd
        cases hd
      | succ m => exact ⟨m, rfl⟩
    rw [hm, rngK_succ] at hd
    cases hd
    have hkl : k + 1 < bs.length := by omega
    obtain ⟨b, hbk⟩ : ∃ b, bs[k]? = some b := ⟨_, List.getElem?_eq_getElem (by omega)⟩
    obtain ⟨W, e1, e2⟩ := wts_next bs 1 k b hbk
    have b2 := h3 b (List.mem_of_getElem? hbk)
    walk_at "d"
    rw [atI_k, atI_k, atI_k1, List.getElem?_map, List.getElem?_map, List.getElem?_map, hbk, e1, e2]
    simp only [Option.map_some]
    by_cases c1 : w = "queue"
    · subst c1
      rw [if_pos rfl]
      refine ite2 (fun c2 => ?_) (fun c2 => ?_)
      · refine ⟨by decide, h _ (.inr ⟨?_, _, _, _, k, rfl, by omega, clash_q hb' hkl e1 hbk c2⟩)⟩
        unfold serveB
        rw [if_pos rfl, decide_eq_false (show ¬ n = 1 by omega), Bool.false_or, List.all_eq_false]
        refine ⟨b, ?_, by simp; omega⟩
        rw [List.mem_take_iff_getElem]
        obtain ⟨hi, e⟩ := List.getElem?_eq_some_iff.mp hbk
        exact ⟨k, by omega, e⟩
      · refine hB _ ⟨k + 1, _, by omega, by rw [show bs.length - 1 - (k + 1) = m by omega], rfl, fun _ j x hj hx => ?_, fun hc => absurd rfl hc⟩
        by_cases hjk : j = k
        · subst hjk
          rw [hbk] at hx
          cases hx
          omega
        · exact hq rfl j x (by omega) hx
    · have hw2 : w = "any" ∨ w = "order" := by
        rcases hw with e | e | e
        · exact absurd e c1
        · exact .inr e
        · exact .inl e
      have nserve : ∀ (hx : ¬ (n = 1 ∧ bs.length = 2)), serveB bs w n = false := fun hx => by
        unfold serveB
        rw [if_neg c1, decide_eq_false (by omega), Bool.false_or]
        by_cases q : n = 1
        · rw [decide_eq_true q, decide_eq_false (show ¬ bs.length = 2 from fun z => hx ⟨q, z⟩)]
          rfl
        · rw [decide_eq_false q]
          rfl
      rw [if_neg c1]
      simp only [decide_eq_false c1, Bool.not_false, if_true]
      have small : k = 0 → W = 1 := fun e => by
        subst e
        rw [wts_zero] at e1
        cases e1
        rfl
      by_cases c2 : n = 1
      · rw [if_pos c2]
        by_cases c3 : (0 : Int) < (k : Int)
        · rw [if_pos c3]
          obtain ⟨_, g⟩ := ho c1 (by omega)
          have hk1 : k = 1 := by omega
          subst hk1
          have hW : 1 * 2 ≤ W := (wts_two bs h3 0 1 1 W (by omega) (by omega) (wts_zero bs) e1).2
          exact ⟨by decide, h _ (.inr ⟨nserve fun q => by omega, _, _, _, 1, rfl, by omega, clash_o hb' hw2 hkl e1 hbk fun _ => by omega⟩)⟩
        · rw [if_neg c3, if_neg (show ¬ 1 < n by omega)]
          exact hB _ ⟨k + 1, _, by omega, by rw [show bs.length - 1 - (k + 1) = m by omega], rfl, fun q => absurd q c1, fun _ _ => ⟨c2, by omega⟩⟩
      · rw [if_neg c2, if_pos (show 1 < n by omega)]
        have hk0 : k = 0 := by
          cases k with
          | zero => rfl
          | succ k => exact absurd (ho c1 (by omega)).1 c2
        have hW1 := small hk0
        have hcl := clash_o hb' hw2 hkl e1 hbk fun q => absurd q c2
        rw [show W - 1 = 0 by omega] at hcl
        exact ⟨by decide, h _ (.inr ⟨nserve fun q => c2 q.1, _, _, _, k, rfl, by omega, hcl⟩)⟩
abbrev A_figures_clash : AS := (aSeq (aDrop (aCall (aFn 1 S_check_bases) (aCons (aVar 0) aNil)))
  (aSeq (aDrop (aCall (aFn 1 S_check_service) (aCons (aVar 1) aNil)))
  (aRet (aCall (aFn 2 S_clash_of) (aCons (aVar 0) (aCons (aVar 1) aNil))))))
theorem law_figures_clash : ∀ ds Q, ds.length = 2 → S_figures_clash ds Q → A_figures_clash (endsD Q) (startS 2 (ds.map .pu)) := by
  intro ds Q hl h
  obtain ⟨bs, w, n, rfl, hb, hw, h4, h5, h⟩ := h
  walk_at "d"
  refine ⟨bs, rfl, hb, ?_⟩
  walk_at "d"
  refine ⟨w, n, rfl, hw, h4, h5, ?_⟩
  walk_at "d"
  exact ⟨bs, w, n, rfl, hb, hw, h4, h5, h⟩
abbrev A__law_is_clash : AS := (aSeq (aIfS (aOr (aNot (aTest (aIsi .tuple (aVar 2)))) (aTest (aOp aNe (aCall aLen (aCons (aVar 2) aNil)) (aC (.int 4))))) (aRet (aC (.bl false))) aNext)
  (aSeq (aSet 3 (aCall (aFn 1 S__law_weights) (aCons (aVar 0) aNil)))
  (aSeq (aSet 4 (aOp aIx (aVar 3) (aNeg (aC (.int 1)))))
  (aSeq (aAsg (aVar 2) (agTup (agCons (agName 5) (agCons (agName 6) (agCons (agName 7) (agCons (agName 8) agNil))))))
  (aSeq (aIfS (aOr (aNot (aTest (aCall (aBls fun bs => bs.all id) (aCons (aLc (aItT (aTup (aCons (aVar 5) (aCons (aVar 6) (aCons (aVar 7) aNil))))) (agName 11) aYes (aCall (aFn 3 S__law_is_int) (aCons (aVar 11) (aCons (aC (.int 0)) (aCons (aSub (aVar 4) (aC (.int 1))) aNil)))) [11]) aNil)))) (aNot (aTest (aCall (aFn 3 S__law_is_int) (aCons (aVar 8) (aCons (aC (.int 0)) (aCons (aSub (aCall aLen (aCons (aVar 0) aNil)) (aC (.int 1))) aNil))))))) (aRet (aC (.bl false))) aNext)
  (aSeq (aIfS (aNot (aTest (aCall (aFn 3 S__law_can_be) (aCons (aVar 1) (aCons (aSub (aVar 4) (aC (.int 1))) (aCons (aTup (aCons (aVar 5) (aCons (aVar 6) (aCons (aVar 7) aNil)))) aNil)))))) (aRet (aC (.bl false))) aNext)
  (aSeq (aPar 9 10 (aOp aIx (aVar 3) (aVar 8)) (aOp aIx (aVar 0) (aVar 8)))
  (aRet (aAndV (aOp aEq (aAdd (aVar 7) (aMod (aVar 6) (aVar 9))) (aMod (aVar 5) (aVar 9))) (aOp aEq (aMod (aDivW (aVar 5) (aVar 9)) (aVar 10)) (aMod (aDivW (aVar 6) (aVar 9)) (aVar 10))))))))))))
theorem law__law_is_clash : ∀ ds Q, ds.length = 3 → S__law_is_clash ds Q → A__law_is_clash (endsD Q) (startS 12 (ds.map .pu)) := by
  intro ds Q hl h
  obtain ⟨bs, w, n, x, y, d, k, rfl, hb, hw, h4, h5, h6, ⟨W, _, R, b, hW, hBk, hR, w0, w1, x0, x1, y0, y1, d0, d1, hc, hd, he, _⟩, h⟩ := h
  have hlen := wts_len bs 1
  unfold A__law_is_clash
  show aSeq _ _ _ [.pu (tupI bs), .pu (.tup [.str w, .int n]), .pu (.tup [.int x, .int y, .int d, .int k]), .no, .no, .no, .no, .no, .no, .no, .no, .no]
  refine seq_cut [.pu (tupI bs), .pu (.tup [.str w, .int n]), .pu (.tup [.int x, .int y, .int d, .int k]), .no, .no, .no, .no, .no, .no, .no, .no, .no] (fun B hB => ?_) ?_
  · walk_at "d"
    exact hB
  refine seq_cut [.pu (tupI bs), .pu (.tup [.str w, .int n]), .pu (.tup [.int x, .int y, .int d, .int k]), .pu (lstI (wts 1 bs)), .no, .no, .no, .no, .no, .no, .no, .no] (fun B hB => ?_) ?_
  · walk_at "d"
    exact ⟨bs, rfl, hb, hB⟩
  refine seq_cut [.pu (tupI bs), .pu (.tup [.str w, .int n]), .pu (.tup [.int x, .int y, .int d, .int k]), .pu (lstI (wts 1 bs)), .pu (.int R), .no, .no, .no, .no, .no, .no, .no] (fun B hB => ?_) ?_
  · unfold lstI at hB ⊢
    walk_at "d"
    obtain ⟨z, e1, e2⟩ := lastI ((wts 1 bs).map D.int) (by
      intro e
      have := congrArg List.length e
      rw [List.length_map, hlen] at this
      cases this)
    rw [List.length_map, hlen, List.getElem?_map, show bs.length + 1 - 1 = bs.length by omega, hR] at e2
    cases e2
    rw [e1]
    exact hB
  refine seq_cut [.pu (tupI bs), .pu (.tup [.str w, .int n]), .pu (.tup [.int x, .int y, .int d, .int k]), .pu (lstI (wts 1 bs)), .pu (.int R), .pu (.int x), .pu (.int y), .pu (.int d), .pu (.int k), .no, .no, .no] (fun B hB => ?_) ?_
  · walk_at "d"
    exact hB
  refine seq_cut [.pu (tupI bs), .pu (.tup [.str w, .int n]), .pu (.tup [.int x, .int y, .int d, .int k]), .pu (lstI (wts 1 bs)), .pu (.int R), .pu (.int x), .pu (.int y), .pu (.int d), .pu (.int k), .no, .no, .no] (fun B hB => ?_) ?_
  · have wi : ∀ z hi : Int, 0 ≤ z → z ≤ hi → withinD (.int z) 0 hi = true := fun z hi a b => by
      show (decide (0 ≤ z) && decide (z ≤ hi)) = true
      simp [a, b]
    walk_at "d"
    refine ⟨by decide, fun p => lc_pure (i := 11) rfl (fun d => .bl (withinD d 0 (R - 1))) _ [] _ (fun z hz T hT => ?_) (by show 0 + 3 ≤ 100000; decide) ?_⟩
    · walk_at "d"
      refine ⟨z, _, _, rfl, ?_, hT⟩
      simp only [List.mem_cons, List.mem_nil_iff, or_false] at hz
      rcases hz with rfl | rfl | rfl <;> trivial
    · walk_at "d"
      rw [wi x _ x0 (by omega), wi y _ y0 (by omega), wi d _ d0 (by omega)]
      have e := aBls_lst (fun bs => bs.all id) [true, true, true]
      simp only [List.map] at e
      rw [e]
      walk_at "d"
      unfold tupI at hB ⊢
      walk_at "d"
      refine ite2 (fun c => absurd c (by decide)) fun _ => ?_
      refine ⟨_, _, _, rfl, trivial, ?_⟩
      rw [wi _ _ (by omega) (by rw [List.length_map]; omega)]
      walk_at "d"
      exact hB
  refine seq_cut [.pu (tupI bs), .pu (.tup [.str w, .int n]), .pu (.tup [.int x, .int y, .int d, .int k]), .pu (lstI (wts 1 bs)), .pu (.int R), .pu (.int x), .pu (.int y), .pu (.int d), .pu (.int k), .no, .no, .no] (fun B hB => ?_) ?_
  · walk_at "d"
    refine ⟨by decide, w, n, R - 1, x, y, d, rfl, hw, h4, h5, d0, ?_⟩
    rw [hc]
    walk_at "d"
    exact hB
  unfold tupI lstI
  walk_at "d"
  rw [atI_k, atI_k, List.getElem?_map, List.getElem?_map, hW, hBk]
  simp only [Option.map_some]
  have b2 := hb.2.2 b (List.mem_of_getElem? hBk)
  have dv : CDivW x W ∧ CDivW y W := by
    have e : W.natAbs.log2 < 9000 := by
      have h1 : W.natAbs < 2 ^ 80 := by omega
      have h2 : W.natAbs.log2 < 80 := (Nat.log2_lt (by omega)).mpr h1
      omega
    exact ⟨⟨w0, e⟩, ⟨w0, e⟩⟩
  refine ⟨w0, w0, ?_⟩
  rw [if_pos hd]
  refine ⟨dv.1, by omega, dv.2, by omega, ?_⟩
  rw [decide_eq_true he]
  exact h
end K26

namespace K26
open PySem L2 DL
local macro_rules | `(tactic| walk_at "d") => `(tactic| try simp only [aSeq, aSet, aVar, aMov, aC, aOp, aI, aIC, aB, aAnd, aOr, aNot, aTest, aIf, aAndV, aOrV, aNotV, aChain, aIsi, aCall, aCons, aNil, aRet, aRetN, aNext, aDrop, aIfS, aNev, aFn, aTup, aLst, aNeg, aIx, aIn, aEq, aNe, aIsN, aNotN, aAsg, agTup, agCons, agNil, agName, aPar, aAug, aInt, aI1, aI2, aLen, aPart, aNoP, aSlT, aSlL, aIxO, aApp, aPut, aCallM, aCallT, aYes, aLc, aItL, aItT, aRng1, aFor, wipeS, aTupl, aList, aListRange1, aLt, aLe, aGt, aGe,
  Sl.d, endsD, endsM, startS, List.map, List.length_cons, List.length_nil, List.length_replicate, List.length_append, List.cons_append, List.nil_append, List.replicate, List.getElem?_cons_zero, List.getElem?_cons_succ, List.getElem?_nil, List.set_cons_zero, List.set_cons_succ, List.set_nil, Nat.zero_add, Nat.reduceAdd, Nat.reduceSub, seqD, lstD, isi, isN, eqS, flatD, if_true, if_false, ite_true, ite_false, reduceIte, Bool.false_eq_true, true_and, and_true, reduceCtorEq, at2_0, at2_1, at3_0, at3_1, at3_2, ix3_0, ix3_2, dec_t, Bool.not_true, Bool.not_false])
theorem seq_cutR {t u : AS} {A : AEnds} {s : Ss} (R : Ss → Prop) (h1 : ∀ B : Ss → Prop, (∀ s1, R s1 → B s1) → t { A with nx := B } s) (h2 : ∀ s1, R s1 → u A s1) : aSeq t u A s := h1 _ h2
theorem endsM_ret {P : Sl → List D → Prop} {p : Addr} {s : Ss} (r : Sl) (xs : List D) (e : s[0]? = some (.ow p xs)) (h : P r xs) : (endsM P p).rt r s := ⟨xs, e, h⟩
abbrev A__law_right : AS := (aSeq (aFor (aRng1 (aCons (aC (.int 8)) aNil)) (agName 1) (aSeq (aSet 2 (aCall aTupl (aCons (aLc (aRng1 (aCons (aAdd (aC (.int 1)) (aCallM 2 0 S__law_take (aCons (aCallM 2 0 S__law_of (aCons (aLst (aCons (aC (.int 3)) (aCons (aC (.int 6)) (aCons (aC (.int 40)) aNil)))) aNil)) aNil))) aNil)) (agName 5) aYes (aCall aInt (aCons (aCallM 2 0 S__law_of (aCons (aLst (aCons (aC (.int 2)) (aCons (aC (.int 2)) (aCons (aC (.int 3)) (aCons (aC (.int 4)) aNil))))) aNil)) aNil)) [5]) aNil)))
  (aSeq (aSet 3 (aTup (aCons (aCallM 2 0 S__law_of (aCons (aLst (aCons (aC (.str "queue")) (aCons (aC (.str "queue")) (aCons (aC (.str "order")) (aCons (aC (.str "any")) aNil))))) aNil)) (aCons (aCall aInt (aCons (aAdd (aC (.int 1)) (aCallM 2 0 S__law_take (aCons (aC (.int 4)) aNil))) aNil)) aNil))))
  (aSeq (aSet 4 (aCall (aFn 2 S_figures_clash) (aCons (aVar 2) (aCons (aVar 3) aNil))))
  (aIfS (aTest (aCall (aFn 2 S__law_does_figure_serve) (aCons (aVar 2) (aCons (aVar 3) aNil)))) (aIfS (aTest (aOp aNotN (aVar 4) (aC .non))) (aRet (aC (.bl false))) aNext) (aIfS (aNot (aTest (aCall (aFn 3 S__law_is_clash) (aCons (aVar 2) (aCons (aVar 3) (aCons (aVar 4) aNil)))))) (aRet (aC (.bl false))) aNext))))))
  (aRet (aC (.bl true))))
theorem law__law_right : ∀ xs ds Q p, ds.length + 1 = 1 → S__law_right xs ds Q → A__law_right (endsM Q p) (startS 6 (.ow p xs :: ds.map .pu)) := by
  intro xs ds Q p hl h
  obtain ⟨rfl, hp, h⟩ := h
  unfold A__law_right
  refine seq_cutR (fun s => ∃ xs', s[0]? = some (.ow p xs')) (fun B hB => ?_) fun s1 hs => ?_
  rotate_left
  · obtain ⟨xs', hs⟩ := hs
    exact endsM_ret _ xs' hs (h xs')
  show aFor _ _ _ _ [.ow p xs, .no, .no, .no, .no, .no]
  unfold aFor aRng1 aCons aNil aC
  refine ⟨by decide, by decide, ?_⟩
  rw [rngD_K]
  refine for_inv (fun ds s => ∃ (c : Nat) (xs' : List D) (a1 a2 a3 a4 : Sl), s = [.ow p xs', a1, a2, a3, a4, .no] ∧ Pot c xs' ∧ c + 50 * ds.length ≤ 1000) _ _ ⟨0, xs, .no, .no, .no, .no, rfl, hp, by rw [rngK_len]; decide⟩ ?_ ?_
  · rintro s ⟨c, xs', a1, a2, a3, a4, rfl, _, _⟩
    exact hB _ ⟨xs', rfl⟩
  · rintro d ds s ⟨c, xs', a1, a2, a3, a4, rfl, hc, hl2⟩ B2 hB2
    rw [List.length_cons] at hl2
    show aSeq _ _ _ [.ow p xs', .pu d, a2, a3, a4, .no]
    -- bases
    refine seq_cutR (fun s => ∃ (ys : List D) (bs : List Int), s = [.ow p ys, .pu d, .pu (tupI bs), a3, a4, .no] ∧ Pot (c + 42) ys ∧ BasesOk bs) (fun B3 hB3 => ?_) ?_
    · walk_at "d"
      refine ⟨by decide, fun _ => ⟨_, c, .inl rfl, by simp, by decide, by omega, hc, fun e ys he hy => ?_⟩⟩
      walk_at "d"
      have hn : ∃ n : Int, e = .int n ∧ 0 < n ∧ n ≤ 40 := by
        simp only [List.mem_cons, List.mem_nil_iff, or_false] at he
        rcases he with rfl | rfl | rfl
        · exact ⟨3, rfl, by decide, by decide⟩
        · exact ⟨6, rfl, by decide, by decide⟩
        · exact ⟨40, rfl, by decide, by decide⟩
      obtain ⟨n, rfl, n0, n1⟩ := hn
      refine ⟨n, c + 1, rfl, n0, by omega, by omega, hy, fun j zs j0 j1 hz => ?_⟩
      walk_at "d"
      refine ⟨by omega, by omega, fun q => ?_⟩
      rw [rngD_K]
      refine lc_inv (i := 5) (fun acc s => ∃ (ys : List D) (bs : List Int), s = [.ow p ys, .pu d, a2, a3, a4, .no] ∧ Pot (c + 2 + acc.length) ys ∧ acc = bs.map D.int ∧ ∀ b ∈ bs, 2 ≤ b ∧ b ≤ 4) _ [] _ _ ⟨zs, [], rfl, hz, rfl, fun _ h => by cases h⟩ (by rw [rngK_len]; simp only [List.length_nil]; omega) ?_ ?_
      · rintro acc s z ha ⟨ys, bs, rfl, hy, rfl, hb⟩ hz R hR
        walk_at "d"
        refine ⟨by decide, fun _ => ⟨_, c + 2 + (bs.map D.int).length, .inl rfl, by simp, by decide, by omega, hy, fun e ws he hw => ?_⟩⟩
        have hn : ∃ n : Int, e = .int n ∧ 2 ≤ n ∧ n ≤ 4 := by
          simp only [List.mem_cons, List.mem_nil_iff, or_false] at he
          rcases he with rfl | rfl | rfl | rfl
          · exact ⟨2, rfl, by decide, by decide⟩
          · exact ⟨2, rfl, by decide, by decide⟩
          · exact ⟨3, rfl, by decide, by decide⟩
          · exact ⟨4, rfl, by decide, by decide⟩
        obtain ⟨n, rfl, n0, n1⟩ := hn
        walk_at "d"
        refine hR _ _ ⟨ws, bs ++ [n], rfl, hw.mono (by rw [List.length_append]; exact Nat.le_of_eq (by simp only [List.length_cons, List.length_nil]; omega)), by rw [List.map_append]; rfl, fun b hb2 => ?_⟩
        rcases List.mem_append.mp hb2 with h | h
        · exact hb b h
        · rw [List.mem_singleton.mp h]
          exact ⟨n0, n1⟩
      · rintro acc s ha ⟨ys, bs, rfl, hy, rfl, hb⟩
        walk_at "d"
        refine hB3 _ ⟨ys, bs, rfl, hy.mono ?_, ?_, ?_, hb⟩
        all_goals
          rw [rngK_len] at ha
          simp only [List.length_map, List.length_nil] at ha ⊢
          omega
    -- service
    rintro s ⟨ys, bs, rfl, hy, hbs⟩
    refine seq_cutR (fun s => ∃ (ys : List D) (w : Str) (n : Int), s = [.ow p ys, .pu d, .pu (tupI bs), .pu (.tup [.str w, .int n]), a4, .no] ∧ Pot (c + 44) ys ∧ WordOk w ∧ 1 ≤ n ∧ n ≤ 4) (fun B3 hB3 => ?_) ?_
    · walk_at "d"
      refine ⟨by decide, fun _ => ⟨_, c + 42, .inl rfl, by simp, by decide, by omega, hy, fun e zs he hz => ?_⟩⟩
      have hw : ∃ w : Str, e = .str w ∧ WordOk w := by
        simp only [List.mem_cons, List.mem_nil_iff, or_false] at he
        rcases he with rfl | rfl | rfl | rfl
        · exact ⟨_, rfl, .inl rfl⟩
        · exact ⟨_, rfl, .inl rfl⟩
        · exact ⟨_, rfl, .inr (.inl rfl)⟩
        · exact ⟨_, rfl, .inr (.inr rfl)⟩
      obtain ⟨w, rfl, hw⟩ := hw
      walk_at "d"
      refine ⟨4, c + 43, rfl, by decide, by decide, by omega, hz, fun j zs j0 j1 hz => ?_⟩
      walk_at "d"
      exact ⟨by decide, hB3 _ ⟨zs, w, 1 + j, rfl, hz, hw, by omega, by omega⟩⟩
    rintro s ⟨zs, w, n, rfl, hz, hw, n0, n1⟩
    refine seq_cutR (fun s => ∃ r, s = [.ow p zs, .pu d, .pu (tupI bs), .pu (.tup [.str w, .int n]), .pu r, .no] ∧ GoodR bs w n r) (fun B3 hB3 => ?_) ?_
    · walk_at "d"
      exact ⟨bs, w, n, rfl, hbs, hw, n0, n1, fun r hr => hB3 _ ⟨r, rfl, hr⟩⟩
    rintro s ⟨r, rfl, hr⟩
    have hend : B2 [.ow p zs, .pu d, .pu (tupI bs), .pu (.tup [.str w, .int n]), .pu r, .no] := hB2 _ ⟨c + 44, zs, _, _, _, _, rfl, hz, by omega⟩
    walk_at "d"
    refine ⟨bs, w, n, rfl, hbs, hw, n0, n1, ?_⟩
    walk_at "d"
    rcases hr with ⟨e, rfl⟩ | ⟨e, x, y, dd, k, rfl, hk, hcl⟩
    · rw [e]
      walk_at "d"
      exact hend
    · rw [e]
      walk_at "d"
      refine ⟨bs, w, n, x, y, dd, k, rfl, hbs, hw, n0, n1, hk, hcl, ?_⟩
      walk_at "d"
      exact hend
abbrev A_law : AS := (aRet (aCall (aBls fun bs => bs.all id) (aCons (aLc (aItL (aCall (aFn 2 S__law_cells) (aCons (aVar 0) (aCons (aC (.int 3)) aNil)))) (agName 1) aYes (aCallT 1 S__law_right (aCall (aFn 2 S__law_pot) (aCons (aVar 0) (aCons (aVar 1) aNil))) aNil) [1]) aNil)))
theorem law_law : ∀ ds Q, ds.length = 1 → S_law ds Q → A_law (endsD Q) (startS 2 (ds.map .pu)) := by
  intro ds Q hl h
  obtain ⟨ns, rfl, hn, h⟩ := h
  walk_at "d"
  refine ⟨ns, 3, rfl, by decide, by decide, hn, fun p k hk => ?_⟩
  walk_at "d"
  intro q
  refine lc_pure (i := 1) rfl (fun _ => .bl true) _ [] _ (fun d hd R hR => ?_) (by rw [rngD_K, rngK_len]; simp only [List.length_nil]; omega) ?_
  · rw [rngD_K] at hd
    obtain ⟨i, hi, rfl⟩ := List.mem_map.mp hd
    have hi2 := (List.mem_range'_1.mp hi).2
    walk_at "d"
    refine ⟨ns, i, rfl, by omega, by omega, hn, fun p xs hp => ?_⟩
    walk_at "d"
    exact ⟨rfl, hp, fun _ => hR⟩
  · have e : (rngD 0 k).map (fun _ => D.bl true) = (List.replicate k true).map D.bl := by
      rw [rngD_K, List.map_replicate, List.map_const', rngK_len]
    rw [List.nil_append, e]
    walk_at "d"
    rw [aBls_lst]
    have e2 : (List.replicate k true).all id = true := by
      rw [List.all_eq_true]
      intro x hx
      rw [(List.mem_replicate.mp hx).2]
      rfl
    rw [e2]
    exact h
end K26

namespace K26
open PySem L2 DL
def topS (i : Nat) : Stmt := PySem.Challenge.pw_queueloops_k26_clashes_by_figures.main.body.getD i (.Pass ⟨0, 0, 0, 0⟩)
abbrev s_is_integer : Stmt := topS 5
abbrev N_is_integer : List Str := ["value"]
abbrev s_is_within : Stmt := topS 6
abbrev N_is_within : List Str := ["value", "least", "most"]
abbrev s_is_service : Stmt := topS 14
abbrev N_is_service : List Str := ["value"]
abbrev s_check_service : Stmt := topS 15
abbrev N_check_service : List Str := ["service"]
abbrev s_check_bases : Stmt := topS 21
abbrev N_check_bases : List Str := ["bases", "base"]
abbrev s_weights_of : Stmt := topS 22
abbrev N_weights_of : List Str := ["bases", "found", "base"]
abbrev s_clash_of : Stmt := topS 23
abbrev N_clash_of : List Str := ["bases", "service", "weights", "word", "many", "stage"]
abbrev s_figures_clash : Stmt := topS 24
abbrev N_figures_clash : List Str := ["bases", "service"]
abbrev s__law_pot : Stmt := topS 26
abbrev N__law_pot : List Str := ["script", "place", "cell", "own", "small"]
abbrev s__law_take : Stmt := topS 27
abbrev N__law_take : List Str := ["pot", "upto", "digit", "prime", "blend"]
abbrev s__law_of : Stmt := topS 28
abbrev N__law_of : List Str := ["pot", "some"]
abbrev s__law_cells : Stmt := topS 29
abbrev N__law_cells : List Str := ["script", "most"]
abbrev s__law_is_int : Stmt := topS 30
abbrev N__law_is_int : List Str := ["value", "least", "most"]
abbrev s__law_can_be : Stmt := topS 31
abbrev N__law_can_be : List Str := ["service", "size", "pair", "x", "y", "d", "word", "n", "gap"]
abbrev s__law_weights : Stmt := topS 32
abbrev N__law_weights : List Str := ["bases", "found", "base"]
abbrev s__law_does_figure_serve : Stmt := topS 33
abbrev N__law_does_figure_serve : List Str := ["bases", "service", "word", "n", "base"]
abbrev s__law_is_clash : Stmt := topS 34
abbrev N__law_is_clash : List Str := ["bases", "service", "value", "weights", "reach", "x", "y", "d", "stage", "weight", "base", "one"]
abbrev s__law_right : Stmt := topS 35
abbrev N__law_right : List Str := ["pot", "lap", "bases", "service", "told", "one"]
abbrev s_law : Stmt := topS 36
abbrev N_law : List Str := ["script", "place"]
structure Tx (K : PySem.W.Frag) (mg : Str → Option Value) where
  f_is_integer : Addr
  d_is_integer : FuncData
  F_is_integer : Fun K "is_integer" "is_integer" s_is_integer f_is_integer d_is_integer
  b_is_integer : Binds K d_is_integer ["value"] []
  g_is_integer : mg "is_integer" = some (.ref f_is_integer)
  f_is_within : Addr
  d_is_within : FuncData
  F_is_within : Fun K "is_within" "is_within" s_is_within f_is_within d_is_within
  b_is_within : Binds K d_is_within ["value", "least", "most"] []
  g_is_within : mg "is_within" = some (.ref f_is_within)
  f_is_service : Addr
  d_is_service : FuncData
  F_is_service : Fun K "is_service" "is_service" s_is_service f_is_service d_is_service
  b_is_service : Binds K d_is_service ["value"] []
  g_is_service : mg "is_service" = some (.ref f_is_service)
  f_check_service : Addr
  d_check_service : FuncData
  F_check_service : Fun K "check_service" "check_service" s_check_service f_check_service d_check_service
  b_check_service : Binds K d_check_service ["service"] []
  g_check_service : mg "check_service" = some (.ref f_check_service)
  f_check_bases : Addr
  d_check_bases : FuncData
  F_check_bases : Fun K "check_bases" "check_bases" s_check_bases f_check_bases d_check_bases
  b_check_bases : Binds K d_check_bases ["bases"] []
  g_check_bases : mg "check_bases" = some (.ref f_check_bases)
  f_weights_of : Addr
  d_weights_of : FuncData
  F_weights_of : Fun K "weights_of" "weights_of" s_weights_of f_weights_of d_weights_of
  b_weights_of : Binds K d_weights_of ["bases"] []
  g_weights_of : mg "weights_of" = some (.ref f_weights_of)
  f_clash_of : Addr
  d_clash_of : FuncData
  F_clash_of : Fun K "clash_of" "clash_of" s_clash_of f_clash_of d_clash_of
  b_clash_of : Binds K d_clash_of ["bases", "service"] []
  g_clash_of : mg "clash_of" = some (.ref f_clash_of)
  f_figures_clash : Addr
  d_figures_clash : FuncData
  F_figures_clash : Fun K "figures_clash" "figures_clash" s_figures_clash f_figures_clash d_figures_clash
  b_figures_clash : Binds K d_figures_clash ["bases", "service"] []
  g_figures_clash : mg "figures_clash" = some (.ref f_figures_clash)
  f__law_pot : Addr
  d__law_pot : FuncData
  F__law_pot : Fun K "_law_pot" "_law_pot" s__law_pot f__law_pot d__law_pot
  b__law_pot : Binds K d__law_pot ["script", "place"] []
  g__law_pot : mg "_law_pot" = some (.ref f__law_pot)
  f__law_take : Addr
  d__law_take : FuncData
  F__law_take : Fun K "_law_take" "_law_take" s__law_take f__law_take d__law_take
  b__law_take : Binds K d__law_take ["pot", "upto"] []
  g__law_take : mg "_law_take" = some (.ref f__law_take)
  f__law_of : Addr
  d__law_of : FuncData
  F__law_of : Fun K "_law_of" "_law_of" s__law_of f__law_of d__law_of
  b__law_of : Binds K d__law_of ["pot", "some"] []
  g__law_of : mg "_law_of" = some (.ref f__law_of)
  f__law_cells : Addr
  d__law_cells : FuncData
  F__law_cells : Fun K "_law_cells" "_law_cells" s__law_cells f__law_cells d__law_cells
  b__law_cells : Binds K d__law_cells ["script", "most"] []
  g__law_cells : mg "_law_cells" = some (.ref f__law_cells)
  f__law_is_int : Addr
  d__law_is_int : FuncData
  F__law_is_int : Fun K "_law_is_int" "_law_is_int" s__law_is_int f__law_is_int d__law_is_int
  b__law_is_int : Binds K d__law_is_int ["value", "least", "most"] []
  g__law_is_int : mg "_law_is_int" = some (.ref f__law_is_int)
  f__law_can_be : Addr
  d__law_can_be : FuncData
  F__law_can_be : Fun K "_law_can_be" "_law_can_be" s__law_can_be f__law_can_be d__law_can_be
  b__law_can_be : Binds K d__law_can_be ["service", "size", "pair"] []
  g__law_can_be : mg "_law_can_be" = some (.ref f__law_can_be)
  f__law_weights : Addr
  d__law_weights : FuncData
  F__law_weights : Fun K "_law_weights" "_law_weights" s__law_weights f__law_weights d__law_weights
  b__law_weights : Binds K d__law_weights ["bases"] []
  g__law_weights : mg "_law_weights" = some (.ref f__law_weights)
  f__law_does_figure_serve : Addr
  d__law_does_figure_serve : FuncData
  F__law_does_figure_serve : Fun K "_law_does_figure_serve" "_law_does_figure_serve" s__law_does_figure_serve f__law_does_figure_serve d__law_does_figure_serve
  b__law_does_figure_serve : Binds K d__law_does_figure_serve ["bases", "service"] []
  g__law_does_figure_serve : mg "_law_does_figure_serve" = some (.ref f__law_does_figure_serve)
  f__law_is_clash : Addr
  d__law_is_clash : FuncData
  F__law_is_clash : Fun K "_law_is_clash" "_law_is_clash" s__law_is_clash f__law_is_clash d__law_is_clash
  b__law_is_clash : Binds K d__law_is_clash ["bases", "service", "value"] []
  g__law_is_clash : mg "_law_is_clash" = some (.ref f__law_is_clash)
  f__law_right : Addr
  d__law_right : FuncData
  F__law_right : Fun K "_law_right" "_law_right" s__law_right f__law_right d__law_right
  b__law_right : Binds K d__law_right ["pot"] []
  g__law_right : mg "_law_right" = some (.ref f__law_right)
  f_law : Addr
  d_law : FuncData
  F_law : Fun K "law" "law" s_law f_law d_law
  b_law : Binds K d_law ["script"] []
  g_law : mg "law" = some (.ref f_law)
  z_abs : mg "abs" = none
  z_all : mg "all" = none
  z_bool : mg "bool" = none
  z_int : mg "int" = none
  z_isinstance : mg "isinstance" = none
  z_len : mg "len" = none
  z_list : mg "list" = none
  z_max : mg "max" = none
  z_min : mg "min" = none
  z_range : mg "range" = none
  z_str : mg "str" = none
  z_sum : mg "sum" = none
  z_tuple : mg "tuple" = none
  c_LEAST_BASE : ∃ t, mg "LEAST_BASE" = some (.int 2 t)
  c_MOST_BASE : ∃ t, mg "MOST_BASE" = some (.int 4 t)
  c_MOST_BASES : ∃ t, mg "MOST_BASES" = some (.int 40 t)
  c_MOST_COME : ∃ t, mg "MOST_COME" = some (.int 4 t)
  c_PAIR : ∃ t, mg "PAIR" = some (.int 2 t)
  c_QUEUE_figures : ∃ t, mg "QUEUE_figures" = some (.str "queue" t)
  q_WORDS : Addr
  c_WORDS : mg "WORDS" = some (.ref q_WORDS)
  t_WORDS : ∀ F, SqT K F q_WORDS [.str "queue", .str "order", .str "any"]
  e_WORDS : ∀ F, DqA K F [.str "queue", .str "order", .str "any"] [.str "queue", .str "order", .str "any"]
section
variable {P : Program} {w : World} {K : PySem.W.Frag} {mg : Str → Option Value} {base : Heap}
theorem sc_is_integer : FnScope N_is_integer ["value"] (defScope s_is_integer) := ⟨rfl, rfl, rfl, by decide +kernel, rfl, by decide +kernel, by decide +kernel⟩
theorem ok_is_integer (T : Tx K mg) : FnOk P w K mg base CX0 1 T.f_is_integer T.d_is_integer ["value"] (spD K 1 S_is_integer) := fnD (as := A_is_integer) T.F_is_integer sc_is_integer rfl law_is_integer fun cdv A outer s H E hr => ⟨_,
    (ss_one (s_ret (d_and (d_isi (K := K) (hK := rfl) (T := .int) (d_var 0) T.z_isinstance (by decide +kernel) T.z_int (by decide +kernel)) (d_one (d_not (d_isi (K := K) (hK := rfl) (T := .bool) (d_var 0) T.z_isinstance (by decide +kernel) T.z_bool (by decide +kernel)))))))⟩
theorem sc_is_within : FnScope N_is_within ["value", "least", "most"] (defScope s_is_within) := ⟨rfl, rfl, rfl, by decide +kernel, rfl, by decide +kernel, by decide +kernel⟩
theorem ok_is_within (T : Tx K mg) : FnOk P w K mg base CX0 2 T.f_is_within T.d_is_within ["value", "least", "most"] (spD K 3 S_is_within) := fnD (as := A_is_within) T.F_is_within sc_is_within rfl law_is_within fun cdv A outer s H E hr => ⟨_,
    (ss_one (s_ret (d_and (d_call (K := K) (hK := rfl) (ok_is_integer T) (hr.mono (by decide)) T.g_is_integer T.F_is_integer.kp T.b_is_integer (da_cons (d_var 0) da_nil)) (d_one (d_chain op_le rd_b op_le rd_b (d_var 1) (d_var 0) (d_var 2))))))⟩
theorem sc_is_service : FnScope N_is_service ["value"] (defScope s_is_service) := ⟨rfl, rfl, rfl, by decide +kernel, rfl, by decide +kernel, by decide +kernel⟩
theorem ok_is_service (T : Tx K mg) : FnOk P w K mg base CX0 3 T.f_is_service T.d_is_service ["value"] (spD K 1 S_is_service) := fnD (as := A_is_service) T.F_is_service sc_is_service rfl law_is_service fun cdv A outer s H E hr => ⟨_,
    (ss_cons (s_if (t_w (w_or (t_not (t_val (d_isi (K := K) (hK := rfl) (T := .tuple) (d_var 0) T.z_isinstance (by decide +kernel) T.z_tuple (by decide +kernel)))) (w_or (t_cmp op_ne rd_ne (d_cb (K := K) (hK := rfl) rc_len call_len_seq T.z_len (by decide +kernel) (da_cons (d_var 0) da_nil)) (d_gint T.c_PAIR) (nomark _)) (w_or (t_not (t_val (d_isi (K := K) (hK := rfl) (T := .str) (d_ix (K := K) (hK := rfl) (d_var 0) d_int) T.z_isinstance (by decide +kernel) T.z_str (by decide +kernel)))) (w_or1 (t_nin (K := K) (hK := rfl) (d_ix (K := K) (hK := rfl) (d_var 0) d_int) (d_gtup T.c_WORDS T.t_WORDS T.e_WORDS))))))) (ss_one (s_ret d_bl)) ss_nil)
    (ss_one (s_ret (d_call (K := K) (hK := rfl) (ok_is_within T) (hr.mono (by decide)) T.g_is_within T.F_is_within.kp T.b_is_within (da_cons (d_ix (K := K) (hK := rfl) (d_var 0) d_int) (da_cons d_int (da_cons (d_gint T.c_MOST_COME) da_nil)))))))⟩
theorem sc_check_service : FnScope N_check_service ["service"] (defScope s_check_service) := ⟨rfl, rfl, rfl, by decide +kernel, rfl, by decide +kernel, by decide +kernel⟩
theorem ok_check_service (T : Tx K mg) : FnOk P w K mg base CX0 4 T.f_check_service T.d_check_service ["service"] (spD K 1 S_check_service) := fnD (as := A_check_service) T.F_check_service sc_check_service rfl law_check_service fun cdv A outer s H E hr => ⟨_,
    (ss_one (s_if (t_not (t_val (d_call (K := K) (hK := rfl) (ok_is_service T) (hr.mono (by decide)) T.g_is_service T.F_is_service.kp T.b_is_service (da_cons (d_var 0) da_nil)))) (ss_one s_nev) ss_nil))⟩
theorem sc_check_bases : FnScope N_check_bases ["bases"] (defScope s_check_bases) := ⟨rfl, rfl, rfl, by decide +kernel, rfl, by decide +kernel, by decide +kernel⟩
theorem ok_check_bases (T : Tx K mg) : FnOk P w K mg base CX0 3 T.f_check_bases T.d_check_bases ["bases"] (spD K 1 S_check_bases) := fnD (as := A_check_bases) T.F_check_bases sc_check_bases rfl law_check_bases fun cdv A outer s H E hr => ⟨_,
    (ss_cons (s_if (t_w (w_or (t_not (t_val (d_isi (K := K) (hK := rfl) (T := .tuple) (d_var 0) T.z_isinstance (by decide +kernel) T.z_tuple (by decide +kernel)))) (w_or1 (t_not (t_chain op_le rd_b op_le rd_b d_int (d_cb (K := K) (hK := rfl) rc_len call_len_seq T.z_len (by decide +kernel) (da_cons (d_var 0) da_nil)) (d_gint T.c_MOST_BASES)))))) (ss_one s_nev) ss_nil)
    (ss_one (s_if (t_not (t_val (d_cb (K := K) (hK := rfl) rc_all (cr_all rfl) T.z_all (by decide +kernel) (da_cons (d_lc (own := [("base", 1)]) rfl sc_check_bases.nd (di_tup (K := K) (hK := rfl) (d_var 0)) (blkOk_by (N := N_check_bases) (sc := defScope s_check_bases) (own := [("base", 1)]) (by decide +kernel)) (by decide) (fun _ _ _ _ _ => (dg_name (i := 1) sc_check_bases.nd)) (fun _ _ _ _ _ => (d_call (K := K) (hK := rfl) (ok_is_within T) (hr.mono (by decide)) T.g_is_within T.F_is_within.kp T.b_is_within (da_cons (d_var 1) (da_cons (d_gint T.c_LEAST_BASE) (da_cons (d_gint T.c_MOST_BASE) da_nil)))))) da_nil)))) (ss_one s_nev) ss_nil)))⟩
theorem sc_weights_of : FnScope N_weights_of ["bases"] (defScope s_weights_of) := ⟨rfl, rfl, rfl, by decide +kernel, rfl, by decide +kernel, by decide +kernel⟩
theorem ok_weights_of (T : Tx K mg) : FnOk P w K mg base CX0 1 T.f_weights_of T.d_weights_of ["bases"] (spD K 1 S_weights_of) := fnD (as := A_weights_of) T.F_weights_of sc_weights_of rfl law_weights_of fun cdv A outer s H E hr => ⟨_,
    (ss_cons (s_set (i := 1) sc_weights_of.nd (d_lst (da_cons d_int da_nil)))
    (ss_cons (s_for PassesOwn.never rfl (di_tup (K := K) (hK := rfl) (d_var 0)) (dg_name (i := 2) sc_weights_of.nd) (ss_one (s_app (i := 1) (d_mul (d_ixO (K := K) (hK := rfl) (i := 1) (d_var 1) (d_neg d_int)) (d_var 2)) (d_var 1))))
    (ss_one (s_ret (d_var 1)))))⟩
theorem sc_clash_of : FnScope N_clash_of ["bases", "service"] (defScope s_clash_of) := ⟨rfl, rfl, rfl, by decide +kernel, rfl, by decide +kernel, by decide +kernel⟩
theorem ok_clash_of (T : Tx K mg) : FnOk P w K mg base CX0 2 T.f_clash_of T.d_clash_of ["bases", "service"] (spD K 2 S_clash_of) := fnD (as := A_clash_of) T.F_clash_of sc_clash_of rfl law_clash_of fun cdv A outer s H E hr => ⟨_,
    (ss_cons (s_asg (d_tup (da_cons (d_call (K := K) (hK := rfl) (ok_weights_of T) (hr.mono (by decide)) T.g_weights_of T.F_weights_of.kp T.b_weights_of (da_cons (d_var 0) da_nil)) (da_cons (d_var 1) da_nil))) (dg_tup (K := K) (hK := rfl) rfl (dgs_cons (dg_name (i := 2) sc_clash_of.nd) (dgs_cons (dg_tup (K := K) (hK := rfl) rfl (dgs_cons (dg_name (i := 3) sc_clash_of.nd) (dgs_cons (dg_name (i := 4) sc_clash_of.nd) dgs_nil))) dgs_nil))))
    (ss_cons (s_for PassesOwn.never rfl (di_rng1 T.z_range (da_cons (d_sub (d_cb (K := K) (hK := rfl) rc_len call_len_seq T.z_len (by decide +kernel) (da_cons (d_var 0) da_nil)) d_int) da_nil)) (dg_name (i := 5) sc_clash_of.nd) (ss_cons (s_if (t_w (w_or (t_w (w_and (t_cmp op_eq rd_eq (d_var 3) (d_gstr T.c_QUEUE_figures) (nomark _)) (w_and1 (t_cmp op_gt rd_b (d_var 4) (d_ix (K := K) (hK := rfl) (d_var 0) (d_var 5)) (nomark _))))) (w_or1 (t_w (w_and (t_cmp op_ne rd_ne (d_var 3) (d_gstr T.c_QUEUE_figures) (nomark _)) (w_and (t_cmp op_eq rd_eq (d_var 4) d_int (nomark _)) (w_and1 (t_cmp op_gt rd_b (d_var 5) d_int (nomark _))))))))) (ss_one (s_ret (d_tup (da_cons (d_sub (d_ix (K := K) (hK := rfl) (d_var 2) (d_var 5)) d_int) (da_cons (d_ix (K := K) (hK := rfl) (d_var 2) (d_add (d_var 5) d_int)) (da_cons (d_sub (d_ix (K := K) (hK := rfl) (d_var 2) (d_var 5)) d_int) (da_cons (d_var 5) da_nil))))))) ss_nil)
    (ss_one (s_if (t_w (w_and (t_cmp op_ne rd_ne (d_var 3) (d_gstr T.c_QUEUE_figures) (nomark _)) (w_and1 (t_cmp op_gt rd_b (d_var 4) d_int (nomark _))))) (ss_one (s_ret (d_tup (da_cons d_int (da_cons (d_ix (K := K) (hK := rfl) (d_var 2) (d_add (d_var 5) d_int)) (da_cons d_int (da_cons (d_var 5) da_nil))))))) ss_nil))))
    (ss_one (s_ret d_non))))⟩
theorem sc_figures_clash : FnScope N_figures_clash ["bases", "service"] (defScope s_figures_clash) := ⟨rfl, rfl, rfl, by decide +kernel, rfl, by decide +kernel, by decide +kernel⟩
theorem ok_figures_clash (T : Tx K mg) : FnOk P w K mg base CX0 5 T.f_figures_clash T.d_figures_clash ["bases", "service"] (spD K 2 S_figures_clash) := fnD (as := A_figures_clash) T.F_figures_clash sc_figures_clash rfl law_figures_clash fun cdv A outer s H E hr => ⟨_,
    (ss_cons (s_expr (d_call (K := K) (hK := rfl) (ok_check_bases T) (hr.mono (by decide)) T.g_check_bases T.F_check_bases.kp T.b_check_bases (da_cons (d_var 0) da_nil)))
    (ss_cons (s_expr (d_call (K := K) (hK := rfl) (ok_check_service T) (hr.mono (by decide)) T.g_check_service T.F_check_service.kp T.b_check_service (da_cons (d_var 1) da_nil)))
    (ss_one (s_ret (d_call (K := K) (hK := rfl) (ok_clash_of T) (hr.mono (by decide)) T.g_clash_of T.F_clash_of.kp T.b_clash_of (da_cons (d_var 0) (da_cons (d_var 1) da_nil)))))))⟩
theorem sc__law_pot : FnScope N__law_pot ["script", "place"] (defScope s__law_pot) := ⟨rfl, rfl, rfl, by decide +kernel, rfl, by decide +kernel, by decide +kernel⟩
theorem ok__law_pot (T : Tx K mg) : FnOk P w K mg base CX0 1 T.f__law_pot T.d__law_pot ["script", "place"] (spD K 2 S__law_pot) := fnD (as := A__law_pot) T.F__law_pot sc__law_pot rfl law__law_pot fun cdv A outer s H E hr => ⟨_,
    (ss_cons (s_set (i := 2) sc__law_pot.nd (d_if (t_cmp op_lt rd_b (d_var 1) (d_cb (K := K) (hK := rfl) rc_len call_len_seq T.z_len (by decide +kernel) (da_cons (d_var 0) da_nil)) (nomark _)) (d_ix (K := K) (hK := rfl) (d_var 0) (d_var 1)) (d_add (d_add (d_mod (d_cb (K := K) (hK := rfl) rc_sum (cr_sum rfl) T.z_sum (by decide +kernel) (da_cons (d_slL (K := K) (hK := rfl) (d_var 0) do_no (do_so d_int)) da_nil)) d_int) (d_mul d_int (d_var 1))) d_int)))
    (ss_cons (s_set (i := 3) sc__law_pot.nd (d_mul (d_mod (d_ct (K := K) (hK := rfl) rc_int call_int1 T.z_int (by decide +kernel) (da_cons (d_cb (K := K) (hK := rfl) rc_i1 cr_abs T.z_abs (by decide +kernel) (da_cons (d_var 2) da_nil)) da_nil)) (d_powW (d_pow d_int d_int) d_int)) (d_ct (K := K) (hK := rfl) rc_int call_int1 T.z_int (by decide +kernel) (da_cons (d_cmp op_ge rd_b (d_cb (K := K) (hK := rfl) rc_i1 cr_abs T.z_abs (by decide +kernel) (da_cons (d_var 2) da_nil)) (d_pow d_int d_int) (nomark _)) da_nil))))
    (ss_cons (s_set (i := 4) sc__law_pot.nd (d_mod (d_ct (K := K) (hK := rfl) rc_int call_int1 T.z_int (by decide +kernel) (da_cons (d_var 2) da_nil)) d_int))
    (ss_one (s_ret (d_lst (da_cons (d_var 3) (da_cons (d_mod (d_ct (K := K) (hK := rfl) rc_int call_int1 T.z_int (by decide +kernel) (da_cons (d_add (d_add (d_mul (d_var 4) d_int) (d_mul (d_mul d_int (d_var 1)) (d_var 1))) d_int) da_nil)) d_int) (da_cons d_int da_nil)))))))))⟩
theorem sc__law_take : FnScope N__law_take ["pot", "upto"] (defScope s__law_take) := ⟨rfl, rfl, rfl, by decide +kernel, rfl, by decide +kernel, by decide +kernel⟩
theorem ok__law_take (T : Tx K mg) : FnOk P w K mg base CX0 1 T.f__law_take T.d__law_take ["pot", "upto"] (spM K 2 S__law_take) := fnM (as := A__law_take) T.F__law_take sc__law_take rfl law__law_take fun cdv A outer s H E hr => ⟨_,
    (ss_cons (s_if (t_cmp op_gt rd_b (d_ixO (K := K) (hK := rfl) (i := 0) (d_var 0) d_int) d_int (nomark _)) (ss_cons (s_set (i := 2) sc__law_take.nd (d_mod (d_ct (K := K) (hK := rfl) rc_int call_int1 T.z_int (by decide +kernel) (da_cons (d_ixO (K := K) (hK := rfl) (i := 0) (d_var 0) d_int) da_nil)) (d_var 1)))
    (ss_cons (s_put (i := 0) (d_fdiv (d_ixO (K := K) (hK := rfl) (i := 0) (d_var 0) d_int) (d_var 1)) (d_var 0) d_int)
    (ss_one (s_ret (d_var 2))))) ss_nil)
    (ss_cons (s_put (i := 0) (d_add (d_ixO (K := K) (hK := rfl) (i := 0) (d_var 0) d_int) d_int) (d_var 0) d_int)
    (ss_cons (s_set (i := 3) sc__law_take.nd (d_ix (K := K) (hK := rfl) (d_lst (da_cons d_int (da_cons d_int (da_cons d_int (da_cons d_int (da_cons d_int da_nil)))))) (d_mod (d_ct (K := K) (hK := rfl) rc_int call_int1 T.z_int (by decide +kernel) (da_cons (d_ixO (K := K) (hK := rfl) (i := 0) (d_var 0) d_int) da_nil)) d_int)))
    (ss_cons (s_set (i := 4) sc__law_take.nd (d_mod (d_ct (K := K) (hK := rfl) rc_int call_int1 T.z_int (by decide +kernel) (da_cons (d_pow (d_ct (K := K) (hK := rfl) rc_int call_int1 T.z_int (by decide +kernel) (da_cons (d_add (d_add (d_ixO (K := K) (hK := rfl) (i := 0) (d_var 0) d_int) (d_mul (d_mul d_int (d_ixO (K := K) (hK := rfl) (i := 0) (d_var 0) d_int)) (d_ixO (K := K) (hK := rfl) (i := 0) (d_var 0) d_int))) d_int) da_nil)) d_int) da_nil)) (d_var 3)))
    (ss_cons (s_set (i := 4) sc__law_take.nd (d_mod (d_ct (K := K) (hK := rfl) rc_int call_int1 T.z_int (by decide +kernel) (da_cons (d_mul (d_var 4) (d_add (d_mod (d_ct (K := K) (hK := rfl) rc_int call_int1 T.z_int (by decide +kernel) (da_cons (d_var 4) da_nil)) d_int) (d_mul d_int (d_ixO (K := K) (hK := rfl) (i := 0) (d_var 0) d_int)))) da_nil)) d_int))
    (ss_one (s_ret (d_mod (d_ct (K := K) (hK := rfl) rc_int call_int1 T.z_int (by decide +kernel) (da_cons (d_fdiv (d_var 4) d_int) da_nil)) (d_var 1)))))))))⟩
theorem sc__law_of : FnScope N__law_of ["pot", "some"] (defScope s__law_of) := ⟨rfl, rfl, rfl, by decide +kernel, rfl, by decide +kernel, by decide +kernel⟩
theorem ok__law_of (T : Tx K mg) : FnOk P w K mg base CX0 2 T.f__law_of T.d__law_of ["pot", "some"] (spM K 2 S__law_of) := fnM (as := A__law_of) T.F__law_of sc__law_of rfl law__law_of fun cdv A outer s H E hr => ⟨_,
    (ss_one (s_ret (d_ix (K := K) (hK := rfl) (d_var 1) (d_callM (K := K) (hK := rfl) (j := 0) (ok__law_take T) (hr.mono (by decide)) T.g__law_take T.F__law_take.kp T.b__law_take (d_var 0) (da_cons (d_cb (K := K) (hK := rfl) rc_len call_len_seq T.z_len (by decide +kernel) (da_cons (d_var 1) da_nil)) da_nil)))))⟩
theorem sc__law_cells : FnScope N__law_cells ["script", "most"] (defScope s__law_cells) := ⟨rfl, rfl, rfl, by decide +kernel, rfl, by decide +kernel, by decide +kernel⟩
theorem ok__law_cells (T : Tx K mg) : FnOk P w K mg base CX0 1 T.f__law_cells T.d__law_cells ["script", "most"] (spD K 2 S__law_cells) := fnD (as := A__law_cells) T.F__law_cells sc__law_cells rfl law__law_cells fun cdv A outer s H E hr => ⟨_,
    (ss_one (s_ret (d_list_range1 T.z_list T.z_range rfl (d_cb (K := K) (hK := rfl) rc_i2 (cr_max2 rfl) T.z_max (by decide +kernel) (da_cons d_int (da_cons (d_cb (K := K) (hK := rfl) rc_i2 (cr_min2 rfl) T.z_min (by decide +kernel) (da_cons (d_var 1) (da_cons (d_cb (K := K) (hK := rfl) rc_len call_len_seq T.z_len (by decide +kernel) (da_cons (d_var 0) da_nil)) da_nil))) da_nil))))))⟩
theorem sc__law_is_int : FnScope N__law_is_int ["value", "least", "most"] (defScope s__law_is_int) := ⟨rfl, rfl, rfl, by decide +kernel, rfl, by decide +kernel, by decide +kernel⟩
theorem ok__law_is_int (T : Tx K mg) : FnOk P w K mg base CX0 1 T.f__law_is_int T.d__law_is_int ["value", "least", "most"] (spD K 3 S__law_is_int) := fnD (as := A__law_is_int) T.F__law_is_int sc__law_is_int rfl law__law_is_int fun cdv A outer s H E hr => ⟨_,
    (ss_one (s_ret (d_and (d_isi (K := K) (hK := rfl) (T := .int) (d_var 0) T.z_isinstance (by decide +kernel) T.z_int (by decide +kernel)) (d_and (d_not (d_isi (K := K) (hK := rfl) (T := .bool) (d_var 0) T.z_isinstance (by decide +kernel) T.z_bool (by decide +kernel))) (d_one (d_chain op_le rd_b op_le rd_b (d_var 1) (d_var 0) (d_var 2)))))))⟩
theorem sc__law_can_be : FnScope N__law_can_be ["service", "size", "pair"] (defScope s__law_can_be) := ⟨rfl, rfl, rfl, by decide +kernel, rfl, by decide +kernel, by decide +kernel⟩
theorem ok__law_can_be (T : Tx K mg) : FnOk P w K mg base CX0 1 T.f__law_can_be T.d__law_can_be ["service", "size", "pair"] (spD K 3 S__law_can_be) := fnD (as := A__law_can_be) T.F__law_can_be sc__law_can_be rfl law__law_can_be fun cdv A outer s H E hr => ⟨_,
    (ss_cons (s_asg (d_var 2) (dg_tup (K := K) (hK := rfl) rfl (dgs_cons (dg_name (i := 3) sc__law_can_be.nd) (dgs_cons (dg_name (i := 4) sc__law_can_be.nd) (dgs_cons (dg_name (i := 5) sc__law_can_be.nd) dgs_nil)))))
    (ss_cons (s_asg (d_var 0) (dg_tup (K := K) (hK := rfl) rfl (dgs_cons (dg_name (i := 6) sc__law_can_be.nd) (dgs_cons (dg_name (i := 7) sc__law_can_be.nd) dgs_nil))))
    (ss_cons (s_if (t_w (w_or (t_cmp op_gt rd_b (d_cb (K := K) (hK := rfl) rc_i2 (cr_max2 rfl) T.z_max (by decide +kernel) (da_cons (d_var 3) (da_cons (d_var 4) da_nil))) (d_var 1) (nomark _)) (w_or1 (t_w (w_and (t_cmp op_eq rd_eq (d_var 7) d_int (nomark _)) (w_and1 (t_cmp op_eq rd_eq (d_var 5) d_int (nomark _)))))))) (ss_one (s_ret d_bl)) ss_nil)
    (ss_cons (s_set (i := 8) sc__law_can_be.nd (d_sub (d_add (d_var 5) (d_var 4)) (d_var 3)))
    (ss_cons (s_if (t_cmp op_eq rd_eq (d_var 6) d_str (nomark _)) (ss_one (s_ret (d_cmp op_ne rd_ne (d_var 8) d_int (nomark _)))) ss_nil)
    (ss_cons (s_if (t_cmp op_eq rd_eq (d_var 6) d_str (nomark _)) (ss_one (s_ret (d_cmp op_ge rd_b (d_var 8) d_int (nomark _)))) ss_nil)
    (ss_one (s_ret (d_if (t_cmp op_eq rd_eq (d_var 7) d_int (nomark _)) (d_and (d_cmp op_eq rd_eq (d_var 3) d_int (nomark _)) (d_one (d_cmp op_eq rd_eq (d_var 4) d_int (nomark _)))) (d_chain op_le rd_b op_le rd_b d_int (d_var 8) (d_sub (d_add (d_mul (d_var 7) (d_var 5)) (d_var 7)) d_int)))))))))))⟩
theorem sc__law_weights : FnScope N__law_weights ["bases"] (defScope s__law_weights) := ⟨rfl, rfl, rfl, by decide +kernel, rfl, by decide +kernel, by decide +kernel⟩
theorem ok__law_weights (T : Tx K mg) : FnOk P w K mg base CX0 1 T.f__law_weights T.d__law_weights ["bases"] (spD K 1 S__law_weights) := fnD (as := A__law_weights) T.F__law_weights sc__law_weights rfl law__law_weights fun cdv A outer s H E hr => ⟨_,
    (ss_cons (s_set (i := 1) sc__law_weights.nd (d_lst (da_cons d_int da_nil)))
    (ss_cons (s_for PassesOwn.never rfl (di_tup (K := K) (hK := rfl) (d_var 0)) (dg_name (i := 2) sc__law_weights.nd) (ss_one (s_app (i := 1) (d_mul (d_ixO (K := K) (hK := rfl) (i := 1) (d_var 1) (d_neg d_int)) (d_var 2)) (d_var 1))))
    (ss_one (s_ret (d_var 1)))))⟩
theorem sc__law_does_figure_serve : FnScope N__law_does_figure_serve ["bases", "service"] (defScope s__law_does_figure_serve) := ⟨rfl, rfl, rfl, by decide +kernel, rfl, by decide +kernel, by decide +kernel⟩
theorem ok__law_does_figure_serve (T : Tx K mg) : FnOk P w K mg base CX0 1 T.f__law_does_figure_serve T.d__law_does_figure_serve ["bases", "service"] (spD K 2 S__law_does_figure_serve) := fnD (as := A__law_does_figure_serve) T.F__law_does_figure_serve sc__law_does_figure_serve rfl law__law_does_figure_serve fun cdv A outer s H E hr => ⟨_,
    (ss_cons (s_asg (d_var 1) (dg_tup (K := K) (hK := rfl) rfl (dgs_cons (dg_name (i := 2) sc__law_does_figure_serve.nd) (dgs_cons (dg_name (i := 3) sc__law_does_figure_serve.nd) dgs_nil))))
    (ss_cons (s_if (t_cmp op_eq rd_eq (d_var 2) d_str (nomark _)) (ss_one (s_ret (d_or (d_cmp op_eq rd_eq (d_var 3) d_int (nomark _)) (d_one (d_cb (K := K) (hK := rfl) rc_all (cr_all rfl) T.z_all (by decide +kernel) (da_cons (d_lc (own := [("base", 4)]) rfl sc__law_does_figure_serve.nd (di_tup (K := K) (hK := rfl) (d_slT (K := K) (hK := rfl) (d_var 0) do_no (do_so (d_neg d_int)))) (blkOk_by (N := N__law_does_figure_serve) (sc := defScope s__law_does_figure_serve) (own := [("base", 4)]) (by decide +kernel)) (by decide) (fun _ _ _ _ _ => (dg_name (i := 4) sc__law_does_figure_serve.nd)) (fun _ _ _ _ _ => (d_cmp op_le rd_b (d_var 3) (d_var 4) (nomark _)))) da_nil)))))) ss_nil)
    (ss_one (s_ret (d_or (d_cmp op_eq rd_eq (d_cb (K := K) (hK := rfl) rc_len call_len_seq T.z_len (by decide +kernel) (da_cons (d_var 0) da_nil)) d_int (nomark _)) (d_one (d_and (d_cmp op_eq rd_eq (d_var 3) d_int (nomark _)) (d_one (d_cmp op_eq rd_eq (d_cb (K := K) (hK := rfl) rc_len call_len_seq T.z_len (by decide +kernel) (da_cons (d_var 0) da_nil)) d_int (nomark _))))))))))⟩
theorem sc__law_is_clash : FnScope N__law_is_clash ["bases", "service", "value"] (defScope s__law_is_clash) := ⟨rfl, rfl, rfl, by decide +kernel, rfl, by decide +kernel, by decide +kernel⟩
theorem ok__law_is_clash (T : Tx K mg) : FnOk P w K mg base CX0 2 T.f__law_is_clash T.d__law_is_clash ["bases", "service", "value"] (spD K 3 S__law_is_clash) := fnD (as := A__law_is_clash) T.F__law_is_clash sc__law_is_clash rfl law__law_is_clash fun cdv A outer s H E hr => ⟨_,
    (ss_cons (s_if (t_w (w_or (t_not (t_val (d_isi (K := K) (hK := rfl) (T := .tuple) (d_var 2) T.z_isinstance (by decide +kernel) T.z_tuple (by decide +kernel)))) (w_or1 (t_cmp op_ne rd_ne (d_cb (K := K) (hK := rfl) rc_len call_len_seq T.z_len (by decide +kernel) (da_cons (d_var 2) da_nil)) d_int (nomark _))))) (ss_one (s_ret d_bl)) ss_nil)
    (ss_cons (s_set (i := 3) sc__law_is_clash.nd (d_call (K := K) (hK := rfl) (ok__law_weights T) (hr.mono (by decide)) T.g__law_weights T.F__law_weights.kp T.b__law_weights (da_cons (d_var 0) da_nil)))
    (ss_cons (s_set (i := 4) sc__law_is_clash.nd (d_ix (K := K) (hK := rfl) (d_var 3) (d_neg d_int)))
    (ss_cons (s_asg (d_var 2) (dg_tup (K := K) (hK := rfl) rfl (dgs_cons (dg_name (i := 5) sc__law_is_clash.nd) (dgs_cons (dg_name (i := 6) sc__law_is_clash.nd) (dgs_cons (dg_name (i := 7) sc__law_is_clash.nd) (dgs_cons (dg_name (i := 8) sc__law_is_clash.nd) dgs_nil))))))
    (ss_cons (s_if (t_w (w_or (t_not (t_val (d_cb (K := K) (hK := rfl) rc_all (cr_all rfl) T.z_all (by decide +kernel) (da_cons (d_lc (own := [("one", 11)]) rfl sc__law_is_clash.nd (di_tup (K := K) (hK := rfl) (d_tup (da_cons (d_var 5) (da_cons (d_var 6) (da_cons (d_var 7) da_nil))))) (blkOk_by (N := N__law_is_clash) (sc := defScope s__law_is_clash) (own := [("one", 11)]) (by decide +kernel)) (by decide) (fun _ _ _ _ _ => (dg_name (i := 11) sc__law_is_clash.nd)) (fun _ _ _ _ _ => (d_call (K := K) (hK := rfl) (ok__law_is_int T) (hr.mono (by decide)) T.g__law_is_int T.F__law_is_int.kp T.b__law_is_int (da_cons (d_var 11) (da_cons d_int (da_cons (d_sub (d_var 4) d_int) da_nil)))))) da_nil)))) (w_or1 (t_not (t_val (d_call (K := K) (hK := rfl) (ok__law_is_int T) (hr.mono (by decide)) T.g__law_is_int T.F__law_is_int.kp T.b__law_is_int (da_cons (d_var 8) (da_cons d_int (da_cons (d_sub (d_cb (K := K) (hK := rfl) rc_len call_len_seq T.z_len (by decide +kernel) (da_cons (d_var 0) da_nil)) d_int) da_nil))))))))) (ss_one (s_ret d_bl)) ss_nil)
    (ss_cons (s_if (t_not (t_val (d_call (K := K) (hK := rfl) (ok__law_can_be T) (hr.mono (by decide)) T.g__law_can_be T.F__law_can_be.kp T.b__law_can_be (da_cons (d_var 1) (da_cons (d_sub (d_var 4) d_int) (da_cons (d_tup (da_cons (d_var 5) (da_cons (d_var 6) (da_cons (d_var 7) da_nil)))) da_nil)))))) (ss_one (s_ret d_bl)) ss_nil)
    (ss_cons (s_par (i := 9) (j := 10) rfl sc__law_is_clash.nd (d_ix (K := K) (hK := rfl) (d_var 3) (d_var 8)) (d_ix (K := K) (hK := rfl) (d_var 0) (d_var 8)) (by decide) (by rfl))
    (ss_one (s_ret (d_and (d_cmp op_eq rd_eq (d_add (d_var 7) (d_mod (d_var 6) (d_var 9))) (d_mod (d_var 5) (d_var 9)) (nomark _)) (d_one (d_cmp op_eq rd_eq (d_mod (d_fdivW (d_var 5) (d_var 9)) (d_var 10)) (d_mod (d_fdivW (d_var 6) (d_var 9)) (d_var 10)) (nomark _)))))))))))))⟩
theorem sc__law_right : FnScope N__law_right ["pot"] (defScope s__law_right) := ⟨rfl, rfl, rfl, by decide +kernel, rfl, by decide +kernel, by decide +kernel⟩
theorem ok__law_right (T : Tx K mg) : FnOk P w K mg base CX0 6 T.f__law_right T.d__law_right ["pot"] (spM K 1 S__law_right) := fnM (as := A__law_right) T.F__law_right sc__law_right rfl law__law_right fun cdv A outer s H E hr => ⟨_,
    (ss_cons (s_for PassesOwn.never rfl (di_rng1 T.z_range (da_cons d_int da_nil)) (dg_name (i := 1) sc__law_right.nd) (ss_cons (s_set (i := 2) sc__law_right.nd (d_ct (K := K) (hK := rfl) rc_tupl call_tuple_of T.z_tuple (by decide +kernel) (da_cons (d_lc (own := [("one", 5)]) rfl sc__law_right.nd (di_rng1 T.z_range (da_cons (d_add d_int (d_callM (K := K) (hK := rfl) (j := 0) (ok__law_take T) (hr.mono (by decide)) T.g__law_take T.F__law_take.kp T.b__law_take (d_var 0) (da_cons (d_callM (K := K) (hK := rfl) (j := 0) (ok__law_of T) (hr.mono (by decide)) T.g__law_of T.F__law_of.kp T.b__law_of (d_var 0) (da_cons (d_lst (da_cons d_int (da_cons d_int (da_cons d_int da_nil)))) da_nil)) da_nil))) da_nil)) (blkOk_by (N := N__law_right) (sc := defScope s__law_right) (own := [("one", 5)]) (by decide +kernel)) (by decide) (fun _ _ _ _ _ => (dg_name (i := 5) sc__law_right.nd)) (fun _ _ _ _ _ => (d_ct (K := K) (hK := rfl) rc_int call_int1 T.z_int (by decide +kernel) (da_cons (d_callM (K := K) (hK := rfl) (j := 0) (ok__law_of T) (hr.mono (by decide)) T.g__law_of T.F__law_of.kp T.b__law_of (d_var 0) (da_cons (d_lst (da_cons d_int (da_cons d_int (da_cons d_int (da_cons d_int da_nil))))) da_nil)) da_nil)))) da_nil)))
    (ss_cons (s_set (i := 3) sc__law_right.nd (d_tup (da_cons (d_callM (K := K) (hK := rfl) (j := 0) (ok__law_of T) (hr.mono (by decide)) T.g__law_of T.F__law_of.kp T.b__law_of (d_var 0) (da_cons (d_lst (da_cons d_str (da_cons d_str (da_cons d_str (da_cons d_str da_nil))))) da_nil)) (da_cons (d_ct (K := K) (hK := rfl) rc_int call_int1 T.z_int (by decide +kernel) (da_cons (d_add d_int (d_callM (K := K) (hK := rfl) (j := 0) (ok__law_take T) (hr.mono (by decide)) T.g__law_take T.F__law_take.kp T.b__law_take (d_var 0) (da_cons d_int da_nil))) da_nil)) da_nil))))
    (ss_cons (s_set (i := 4) sc__law_right.nd (d_call (K := K) (hK := rfl) (ok_figures_clash T) (hr.mono (by decide)) T.g_figures_clash T.F_figures_clash.kp T.b_figures_clash (da_cons (d_var 2) (da_cons (d_var 3) da_nil))))
    (ss_one (s_if (t_val (d_call (K := K) (hK := rfl) (ok__law_does_figure_serve T) (hr.mono (by decide)) T.g__law_does_figure_serve T.F__law_does_figure_serve.kp T.b__law_does_figure_serve (da_cons (d_var 2) (da_cons (d_var 3) da_nil)))) (ss_one (s_if (t_cmp op_notN rd_notN (d_var 4) d_non (nomark _)) (ss_one (s_ret d_bl)) ss_nil)) (ss_one (s_if (t_not (t_val (d_call (K := K) (hK := rfl) (ok__law_is_clash T) (hr.mono (by decide)) T.g__law_is_clash T.F__law_is_clash.kp T.b__law_is_clash (da_cons (d_var 2) (da_cons (d_var 3) (da_cons (d_var 4) da_nil)))))) (ss_one (s_ret d_bl)) ss_nil))))))))
    (ss_one (s_ret d_bl)))⟩
theorem sc_law : FnScope N_law ["script"] (defScope s_law) := ⟨rfl, rfl, rfl, by decide +kernel, rfl, by decide +kernel, by decide +kernel⟩
theorem ok_law (T : Tx K mg) : FnOk P w K mg base CX0 7 T.f_law T.d_law ["script"] (spD K 1 S_law) := fnD (as := A_law) T.F_law sc_law rfl law_law fun cdv A outer s H E hr => ⟨_,
    (ss_one (s_ret (d_cb (K := K) (hK := rfl) rc_all (cr_all rfl) T.z_all (by decide +kernel) (da_cons (d_lc (own := [("place", 1)]) rfl sc_law.nd (di_list (K := K) (hK := rfl) (d_call (K := K) (hK := rfl) (ok__law_cells T) (hr.mono (by decide)) T.g__law_cells T.F__law_cells.kp T.b__law_cells (da_cons (d_var 0) (da_cons d_int da_nil)))) (blkOk_by (N := N_law) (sc := defScope s_law) (own := [("place", 1)]) (by decide +kernel)) (by decide) (fun _ _ _ _ _ => (dg_name (i := 1) sc_law.nd)) (fun _ _ _ _ _ => (d_callT (K := K) (hK := rfl) (ok__law_right T) (hr.mono (by decide)) T.g__law_right T.F__law_right.kp T.b__law_right (d_call (K := K) (hK := rfl) (ok__law_pot T) (hr.mono (by decide)) T.g__law_pot T.F__law_pot.kp T.b__law_pot (da_cons (d_var 0) (da_cons (d_var 1) da_nil))) da_nil))) da_nil))))⟩
end
theorem all_mk {l : PySem.W.OpenLaw} {w : World} {K : PySem.W.Frag} {h : Heap} {mg : Str → Option Value} {fa a_is_integer a_is_within a_is_service a_check_service a_check_bases a_weights_of a_clash_of a_figures_clash a__law_pot a__law_take a__law_of a__law_cells a__law_is_int a__law_can_be a__law_weights a__law_does_figure_serve a__law_is_clash a__law_right a_law : Addr} (X : K.In h) (G : h.Ns mainGlobals mg) (hfa : mg "law" = some (.ref fa))
    {od0 an0 : Option Addr} {sl0 : Array (Option Value)} {oc0 kV0 dc0 pm0 cd0 ct0 : Value}
    {od1 an1 : Option Addr} {sl1 : Array (Option Value)} {oc1 kV1 dc1 pm1 cd1 ct1 : Value}
    {od2 an2 : Option Addr} {sl2 : Array (Option Value)} {oc2 kV2 dc2 pm2 cd2 ct2 : Value}
    {od3 an3 : Option Addr} {sl3 : Array (Option Value)} {oc3 kV3 dc3 pm3 cd3 ct3 : Value}
    {od4 an4 : Option Addr} {sl4 : Array (Option Value)} {oc4 kV4 dc4 pm4 cd4 ct4 : Value}
    {od5 an5 : Option Addr} {sl5 : Array (Option Value)} {oc5 kV5 dc5 pm5 cd5 ct5 : Value}
    {od6 an6 : Option Addr} {sl6 : Array (Option Value)} {oc6 kV6 dc6 pm6 cd6 ct6 : Value}
    {od7 an7 : Option Addr} {sl7 : Array (Option Value)} {oc7 kV7 dc7 pm7 cd7 ct7 : Value}
    {od8 an8 : Option Addr} {sl8 : Array (Option Value)} {oc8 kV8 dc8 pm8 cd8 ct8 : Value}
    {od9 an9 : Option Addr} {sl9 : Array (Option Value)} {oc9 kV9 dc9 pm9 cd9 ct9 : Value}
    {od10 an10 : Option Addr} {sl10 : Array (Option Value)} {oc10 kV10 dc10 pm10 cd10 ct10 : Value}
    {od11 an11 : Option Addr} {sl11 : Array (Option Value)} {oc11 kV11 dc11 pm11 cd11 ct11 : Value}
    {od12 an12 : Option Addr} {sl12 : Array (Option Value)} {oc12 kV12 dc12 pm12 cd12 ct12 : Value}
    {od13 an13 : Option Addr} {sl13 : Array (Option Value)} {oc13 kV13 dc13 pm13 cd13 ct13 : Value}
    {od14 an14 : Option Addr} {sl14 : Array (Option Value)} {oc14 kV14 dc14 pm14 cd14 ct14 : Value}
    {od15 an15 : Option Addr} {sl15 : Array (Option Value)} {oc15 kV15 dc15 pm15 cd15 ct15 : Value}
    {od16 an16 : Option Addr} {sl16 : Array (Option Value)} {oc16 kV16 dc16 pm16 cd16 ct16 : Value}
    {od17 an17 : Option Addr} {sl17 : Array (Option Value)} {oc17 kV17 dc17 pm17 cd17 ct17 : Value}
    {od18 an18 : Option Addr} {sl18 : Array (Option Value)} {oc18 kV18 dc18 pm18 cd18 ct18 : Value}
    {tk_LEAST_BASE : Tok}
    {tk_MOST_BASE : Tok}
    {tk_MOST_BASES : Tok}
    {tk_MOST_COME : Tok}
    {tk_PAIR : Tok}
    {tk_QUEUE_figures : Tok}
    {q_WORDS : Addr} {tk_WORDS_0 tk_WORDS_1 tk_WORDS_2 : Tok} {n_WORDS : Nat} {od_WORDS : Option Addr} {sl_WORDS : Array (Option Value)}
    (a0 : PySem.W.nsIn K mainGlobals "is_integer" = some (some (.ref a_is_integer))) (l0 : K.lookup a_is_integer = some ⟨oc0, od0, .func (PySem.W.fnOf "is_integer" "is_integer" (defArgs s_is_integer) (defBody s_is_integer) (defScope s_is_integer) .none kV0 dc0 pm0 an0 cd0 ct0), sl0⟩) (c0 : PySem.W.codeIn K cd0 "is_integer" = true) (k0 : PySem.W.keepIn K (.ref a_is_integer) = true)
    (a1 : PySem.W.nsIn K mainGlobals "is_within" = some (some (.ref a_is_within))) (l1 : K.lookup a_is_within = some ⟨oc1, od1, .func (PySem.W.fnOf "is_within" "is_within" (defArgs s_is_within) (defBody s_is_within) (defScope s_is_within) .none kV1 dc1 pm1 an1 cd1 ct1), sl1⟩) (c1 : PySem.W.codeIn K cd1 "is_within" = true) (k1 : PySem.W.keepIn K (.ref a_is_within) = true)
    (a2 : PySem.W.nsIn K mainGlobals "is_service" = some (some (.ref a_is_service))) (l2 : K.lookup a_is_service = some ⟨oc2, od2, .func (PySem.W.fnOf "is_service" "is_service" (defArgs s_is_service) (defBody s_is_service) (defScope s_is_service) .none kV2 dc2 pm2 an2 cd2 ct2), sl2⟩) (c2 : PySem.W.codeIn K cd2 "is_service" = true) (k2 : PySem.W.keepIn K (.ref a_is_service) = true)
    (a3 : PySem.W.nsIn K mainGlobals "check_service" = some (some (.ref a_check_service))) (l3 : K.lookup a_check_service = some ⟨oc3, od3, .func (PySem.W.fnOf "check_service" "check_service" (defArgs s_check_service) (defBody s_check_service) (defScope s_check_service) .none kV3 dc3 pm3 an3 cd3 ct3), sl3⟩) (c3 : PySem.W.codeIn K cd3 "check_service" = true) (k3 : PySem.W.keepIn K (.ref a_check_service) = true)
    (a4 : PySem.W.nsIn K mainGlobals "check_bases" = some (some (.ref a_check_bases))) (l4 : K.lookup a_check_bases = some ⟨oc4, od4, .func (PySem.W.fnOf "check_bases" "check_bases" (defArgs s_check_bases) (defBody s_check_bases) (defScope s_check_bases) .none kV4 dc4 pm4 an4 cd4 ct4), sl4⟩) (c4 : PySem.W.codeIn K cd4 "check_bases" = true) (k4 : PySem.W.keepIn K (.ref a_check_bases) = true)
    (a5 : PySem.W.nsIn K mainGlobals "weights_of" = some (some (.ref a_weights_of))) (l5 : K.lookup a_weights_of = some ⟨oc5, od5, .func (PySem.W.fnOf "weights_of" "weights_of" (defArgs s_weights_of) (defBody s_weights_of) (defScope s_weights_of) .none kV5 dc5 pm5 an5 cd5 ct5), sl5⟩) (c5 : PySem.W.codeIn K cd5 "weights_of" = true) (k5 : PySem.W.keepIn K (.ref a_weights_of) = true)
    (a6 : PySem.W.nsIn K mainGlobals "clash_of" = some (some (.ref a_clash_of))) (l6 : K.lookup a_clash_of = some ⟨oc6, od6, .func (PySem.W.fnOf "clash_of" "clash_of" (defArgs s_clash_of) (defBody s_clash_of) (defScope s_clash_of) .none kV6 dc6 pm6 an6 cd6 ct6), sl6⟩) (c6 : PySem.W.codeIn K cd6 "clash_of" = true) (k6 : PySem.W.keepIn K (.ref a_clash_of) = true)
    (a7 : PySem.W.nsIn K mainGlobals "figures_clash" = some (some (.ref a_figures_clash))) (l7 : K.lookup a_figures_clash = some ⟨oc7, od7, .func (PySem.W.fnOf "figures_clash" "figures_clash" (defArgs s_figures_clash) (defBody s_figures_clash) (defScope s_figures_clash) .none kV7 dc7 pm7 an7 cd7 ct7), sl7⟩) (c7 : PySem.W.codeIn K cd7 "figures_clash" = true) (k7 : PySem.W.keepIn K (.ref a_figures_clash) = true)
    (a8 : PySem.W.nsIn K mainGlobals "_law_pot" = some (some (.ref a__law_pot))) (l8 : K.lookup a__law_pot = some ⟨oc8, od8, .func (PySem.W.fnOf "_law_pot" "_law_pot" (defArgs s__law_pot) (defBody s__law_pot) (defScope s__law_pot) .none kV8 dc8 pm8 an8 cd8 ct8), sl8⟩) (c8 : PySem.W.codeIn K cd8 "_law_pot" = true) (k8 : PySem.W.keepIn K (.ref a__law_pot) = true)
    (a9 : PySem.W.nsIn K mainGlobals "_law_take" = some (some (.ref a__law_take))) (l9 : K.lookup a__law_take = some ⟨oc9, od9, .func (PySem.W.fnOf "_law_take" "_law_take" (defArgs s__law_take) (defBody s__law_take) (defScope s__law_take) .none kV9 dc9 pm9 an9 cd9 ct9), sl9⟩) (c9 : PySem.W.codeIn K cd9 "_law_take" = true) (k9 : PySem.W.keepIn K (.ref a__law_take) = true)
    (a10 : PySem.W.nsIn K mainGlobals "_law_of" = some (some (.ref a__law_of))) (l10 : K.lookup a__law_of = some ⟨oc10, od10, .func (PySem.W.fnOf "_law_of" "_law_of" (defArgs s__law_of) (defBody s__law_of) (defScope s__law_of) .none kV10 dc10 pm10 an10 cd10 ct10), sl10⟩) (c10 : PySem.W.codeIn K cd10 "_law_of" = true) (k10 : PySem.W.keepIn K (.ref a__law_of) = true)
    (a11 : PySem.W.nsIn K mainGlobals "_law_cells" = some (some (.ref a__law_cells))) (l11 : K.lookup a__law_cells = some ⟨oc11, od11, .func (PySem.W.fnOf "_law_cells" "_law_cells" (defArgs s__law_cells) (defBody s__law_cells) (defScope s__law_cells) .none kV11 dc11 pm11 an11 cd11 ct11), sl11⟩) (c11 : PySem.W.codeIn K cd11 "_law_cells" = true) (k11 : PySem.W.keepIn K (.ref a__law_cells) = true)
    (a12 : PySem.W.nsIn K mainGlobals "_law_is_int" = some (some (.ref a__law_is_int))) (l12 : K.lookup a__law_is_int = some ⟨oc12, od12, .func (PySem.W.fnOf "_law_is_int" "_law_is_int" (defArgs s__law_is_int) (defBody s__law_is_int) (defScope s__law_is_int) .none kV12 dc12 pm12 an12 cd12 ct12), sl12⟩) (c12 : PySem.W.codeIn K cd12 "_law_is_int" = true) (k12 : PySem.W.keepIn K (.ref a__law_is_int) = true)
    (a13 : PySem.W.nsIn K mainGlobals "_law_can_be" = some (some (.ref a__law_can_be))) (l13 : K.lookup a__law_can_be = some ⟨oc13, od13, .func (PySem.W.fnOf "_law_can_be" "_law_can_be" (defArgs s__law_can_be) (defBody s__law_can_be) (defScope s__law_can_be) .none kV13 dc13 pm13 an13 cd13 ct13), sl13⟩) (c13 : PySem.W.codeIn K cd13 "_law_can_be" = true) (k13 : PySem.W.keepIn K (.ref a__law_can_be) = true)
    (a14 : PySem.W.nsIn K mainGlobals "_law_weights" = some (some (.ref a__law_weights))) (l14 : K.lookup a__law_weights = some ⟨oc14, od14, .func (PySem.W.fnOf "_law_weights" "_law_weights" (defArgs s__law_weights) (defBody s__law_weights) (defScope s__law_weights) .none kV14 dc14 pm14 an14 cd14 ct14), sl14⟩) (c14 : PySem.W.codeIn K cd14 "_law_weights" = true) (k14 : PySem.W.keepIn K (.ref a__law_weights) = true)
    (a15 : PySem.W.nsIn K mainGlobals "_law_does_figure_serve" = some (some (.ref a__law_does_figure_serve))) (l15 : K.lookup a__law_does_figure_serve = some ⟨oc15, od15, .func (PySem.W.fnOf "_law_does_figure_serve" "_law_does_figure_serve" (defArgs s__law_does_figure_serve) (defBody s__law_does_figure_serve) (defScope s__law_does_figure_serve) .none kV15 dc15 pm15 an15 cd15 ct15), sl15⟩) (c15 : PySem.W.codeIn K cd15 "_law_does_figure_serve" = true) (k15 : PySem.W.keepIn K (.ref a__law_does_figure_serve) = true)
    (a16 : PySem.W.nsIn K mainGlobals "_law_is_clash" = some (some (.ref a__law_is_clash))) (l16 : K.lookup a__law_is_clash = some ⟨oc16, od16, .func (PySem.W.fnOf "_law_is_clash" "_law_is_clash" (defArgs s__law_is_clash) (defBody s__law_is_clash) (defScope s__law_is_clash) .none kV16 dc16 pm16 an16 cd16 ct16), sl16⟩) (c16 : PySem.W.codeIn K cd16 "_law_is_clash" = true) (k16 : PySem.W.keepIn K (.ref a__law_is_clash) = true)
    (a17 : PySem.W.nsIn K mainGlobals "_law_right" = some (some (.ref a__law_right))) (l17 : K.lookup a__law_right = some ⟨oc17, od17, .func (PySem.W.fnOf "_law_right" "_law_right" (defArgs s__law_right) (defBody s__law_right) (defScope s__law_right) .none kV17 dc17 pm17 an17 cd17 ct17), sl17⟩) (c17 : PySem.W.codeIn K cd17 "_law_right" = true) (k17 : PySem.W.keepIn K (.ref a__law_right) = true)
    (a18 : PySem.W.nsIn K mainGlobals "law" = some (some (.ref a_law))) (l18 : K.lookup a_law = some ⟨oc18, od18, .func (PySem.W.fnOf "law" "law" (defArgs s_law) (defBody s_law) (defScope s_law) .none kV18 dc18 pm18 an18 cd18 ct18), sl18⟩) (c18 : PySem.W.codeIn K cd18 "law" = true) (k18 : PySem.W.keepIn K (.ref a_law) = true)
    (z_abs : PySem.W.nsIn K mainGlobals "abs" = some none)
    (z_all : PySem.W.nsIn K mainGlobals "all" = some none)
    (z_bool : PySem.W.nsIn K mainGlobals "bool" = some none)
    (z_int : PySem.W.nsIn K mainGlobals "int" = some none)
    (z_isinstance : PySem.W.nsIn K mainGlobals "isinstance" = some none)
    (z_len : PySem.W.nsIn K mainGlobals "len" = some none)
    (z_list : PySem.W.nsIn K mainGlobals "list" = some none)
    (z_max : PySem.W.nsIn K mainGlobals "max" = some none)
    (z_min : PySem.W.nsIn K mainGlobals "min" = some none)
    (z_range : PySem.W.nsIn K mainGlobals "range" = some none)
    (z_str : PySem.W.nsIn K mainGlobals "str" = some none)
    (z_sum : PySem.W.nsIn K mainGlobals "sum" = some none)
    (z_tuple : PySem.W.nsIn K mainGlobals "tuple" = some none)
    (c_LEAST_BASE : PySem.W.nsIn K mainGlobals "LEAST_BASE" = some (some (.int 2 tk_LEAST_BASE)))
    (c_MOST_BASE : PySem.W.nsIn K mainGlobals "MOST_BASE" = some (some (.int 4 tk_MOST_BASE)))
    (c_MOST_BASES : PySem.W.nsIn K mainGlobals "MOST_BASES" = some (some (.int 40 tk_MOST_BASES)))
    (c_MOST_COME : PySem.W.nsIn K mainGlobals "MOST_COME" = some (some (.int 4 tk_MOST_COME)))
    (c_PAIR : PySem.W.nsIn K mainGlobals "PAIR" = some (some (.int 2 tk_PAIR)))
    (c_QUEUE_figures : PySem.W.nsIn K mainGlobals "QUEUE_figures" = some (some (.str "queue" tk_QUEUE_figures)))
    (c_WORDS : PySem.W.nsIn K mainGlobals "WORDS" = some (some (.ref q_WORDS))) (l_WORDS : K.lookup q_WORDS = some ⟨.type "tuple", od_WORDS, .seq #[.str "queue" tk_WORDS_0, .str "order" tk_WORDS_1, .str "any" tk_WORDS_2] n_WORDS, sl_WORDS⟩) :
    ∃ fd : FuncData, (∀ (s : Shared) (v : Value), BindsTo s fd ⟨[v], []⟩ [("script", v)]) ∧ ∀ base : Heap, K.In base → base.Ns mainGlobals mg → FnOk l.prog w K mg base CX0 7 fa fd ["script"] (spLaw K) := by
  have e := hfa.symm.trans (PySem.W.mg_of X G a18)
  cases e
  let T : Tx K mg := { f_is_integer := a_is_integer, d_is_integer := _, F_is_integer := fun_mk (st := s_is_integer) l0 c0 k0, b_is_integer := (fun_mk (st := s_is_integer) l0 c0 k0).binds (fun _ _ _ _ _ _ us hl => match us, hl with | [_], _ => rfl), g_is_integer := PySem.W.mg_of X G a0, f_is_within := a_is_within, d_is_within := _, F_is_within := fun_mk (st := s_is_within) l1 c1 k1, b_is_within := (fun_mk (st := s_is_within) l1 c1 k1).binds (fun _ _ _ _ _ _ us hl => match us, hl with | [_, _, _], _ => rfl), g_is_within := PySem.W.mg_of X G a1, f_is_service := a_is_service, d_is_service := _, F_is_service := fun_mk (st := s_is_service) l2 c2 k2, b_is_service := (fun_mk (st := s_is_service) l2 c2 k2).binds (fun _ _ _ _ _ _ us hl => match us, hl with | [_], _ => rfl), g_is_service := PySem.W.mg_of X G a2, f_check_service := a_check_service, d_check_service := _, F_check_service := fun_mk (st := s_check_service) l3 c3 k3, b_check_service := (fun_mk (st := s_check_service) l3 c3 k3).binds (fun _ _ _ _ _ _ us hl => match us, hl with | [_], _ => rfl), g_check_service := PySem.W.mg_of X G a3, f_check_bases := a_check_bases, d_check_bases := _, F_check_bases := fun_mk (st := s_check_bases) l4 c4 k4, b_check_bases := (fun_mk (st := s_check_bases) l4 c4 k4).binds (fun _ _ _ _ _ _ us hl => match us, hl with | [_], _ => rfl), g_check_bases := PySem.W.mg_of X G a4, f_weights_of := a_weights_of, d_weights_of := _, F_weights_of := fun_mk (st := s_weights_of) l5 c5 k5, b_weights_of := (fun_mk (st := s_weights_of) l5 c5 k5).binds (fun _ _ _ _ _ _ us hl => match us, hl with | [_], _ => rfl), g_weights_of := PySem.W.mg_of X G a5, f_clash_of := a_clash_of, d_clash_of := _, F_clash_of := fun_mk (st := s_clash_of) l6 c6 k6, b_clash_of := (fun_mk (st := s_clash_of) l6 c6 k6).binds (fun _ _ _ _ _ _ us hl => match us, hl with | [_, _], _ => rfl), g_clash_of := PySem.W.mg_of X G a6, f_figures_clash := a_figures_clash, d_figures_clash := _, F_figures_clash := fun_mk (st := s_figures_clash) l7 c7 k7, b_figures_clash := (fun_mk (st := s_figures_clash) l7 c7 k7).binds (fun _ _ _ _ _ _ us hl => match us, hl with | [_, _], _ => rfl), g_figures_clash := PySem.W.mg_of X G a7, f__law_pot := a__law_pot, d__law_pot := _, F__law_pot := fun_mk (st := s__law_pot) l8 c8 k8, b__law_pot := (fun_mk (st := s__law_pot) l8 c8 k8).binds (fun _ _ _ _ _ _ us hl => match us, hl with | [_, _], _ => rfl), g__law_pot := PySem.W.mg_of X G a8, f__law_take := a__law_take, d__law_take := _, F__law_take := fun_mk (st := s__law_take) l9 c9 k9, b__law_take := (fun_mk (st := s__law_take) l9 c9 k9).binds (fun _ _ _ _ _ _ us hl => match us, hl with | [_, _], _ => rfl), g__law_take := PySem.W.mg_of X G a9, f__law_of := a__law_of, d__law_of := _, F__law_of := fun_mk (st := s__law_of) l10 c10 k10, b__law_of := (fun_mk (st := s__law_of) l10 c10 k10).binds (fun _ _ _ _ _ _ us hl => match us, hl with | [_, _], _ => rfl), g__law_of := PySem.W.mg_of X G a10, f__law_cells := a__law_cells, d__law_cells := _, F__law_cells := fun_mk (st := s__law_cells) l11 c11 k11, b__law_cells := (fun_mk (st := s__law_cells) l11 c11 k11).binds (fun _ _ _ _ _ _ us hl => match us, hl with | [_, _], _ => rfl), g__law_cells := PySem.W.mg_of X G a11, f__law_is_int := a__law_is_int, d__law_is_int := _, F__law_is_int := fun_mk (st := s__law_is_int) l12 c12 k12, b__law_is_int := (fun_mk (st := s__law_is_int) l12 c12 k12).binds (fun _ _ _ _ _ _ us hl => match us, hl with | [_, _, _], _ => rfl), g__law_is_int := PySem.W.mg_of X G a12, f__law_can_be := a__law_can_be, d__law_can_be := _, F__law_can_be := fun_mk (st := s__law_can_be) l13 c13 k13, b__law_can_be := (fun_mk (st := s__law_can_be) l13 c13 k13).binds (fun _ _ _ _ _ _ us hl => match us, hl with | [_, _, _], _ => rfl), g__law_can_be := PySem.W.mg_of X G a13, f__law_weights := a__law_weights, d__law_weights := _, F__law_weights := fun_mk (st := s__law_weights) l14 c14 k14, b__law_weights := (fun_mk (st := s__law_weights) l14 c14 k14).binds (fun _ _ _ _ _ _ us hl => match us, hl with | [_], _ => rfl), g__law_weights := PySem.W.mg_of X G a14, f__law_does_figure_serve := a__law_does_figure_serve, d__law_does_figure_serve := _, F__law_does_figure_serve := fun_mk (st := s__law_does_figure_serve) l15 c15 k15, b__law_does_figure_serve := (fun_mk (st := s__law_does_figure_serve) l15 c15 k15).binds (fun _ _ _ _ _ _ us hl => match us, hl with | [_, _], _ => rfl), g__law_does_figure_serve := PySem.W.mg_of X G a15, f__law_is_clash := a__law_is_clash, d__law_is_clash := _, F__law_is_clash := fun_mk (st := s__law_is_clash) l16 c16 k16, b__law_is_clash := (fun_mk (st := s__law_is_clash) l16 c16 k16).binds (fun _ _ _ _ _ _ us hl => match us, hl with | [_, _, _], _ => rfl), g__law_is_clash := PySem.W.mg_of X G a16, f__law_right := a__law_right, d__law_right := _, F__law_right := fun_mk (st := s__law_right) l17 c17 k17, b__law_right := (fun_mk (st := s__law_right) l17 c17 k17).binds (fun _ _ _ _ _ _ us hl => match us, hl with | [_], _ => rfl), g__law_right := PySem.W.mg_of X G a17, f_law := fa, d_law := _, F_law := fun_mk (st := s_law) l18 c18 k18, b_law := (fun_mk (st := s_law) l18 c18 k18).binds (fun _ _ _ _ _ _ us hl => match us, hl with | [_], _ => rfl), g_law := PySem.W.mg_of X G a18, z_abs := PySem.W.mg_none_of X G z_abs, z_all := PySem.W.mg_none_of X G z_all, z_bool := PySem.W.mg_none_of X G z_bool, z_int := PySem.W.mg_none_of X G z_int, z_isinstance := PySem.W.mg_none_of X G z_isinstance, z_len := PySem.W.mg_none_of X G z_len, z_list := PySem.W.mg_none_of X G z_list, z_max := PySem.W.mg_none_of X G z_max, z_min := PySem.W.mg_none_of X G z_min, z_range := PySem.W.mg_none_of X G z_range, z_str := PySem.W.mg_none_of X G z_str, z_sum := PySem.W.mg_none_of X G z_sum, z_tuple := PySem.W.mg_none_of X G z_tuple, c_LEAST_BASE := ⟨_, PySem.W.mg_of X G c_LEAST_BASE⟩, c_MOST_BASE := ⟨_, PySem.W.mg_of X G c_MOST_BASE⟩, c_MOST_BASES := ⟨_, PySem.W.mg_of X G c_MOST_BASES⟩, c_MOST_COME := ⟨_, PySem.W.mg_of X G c_MOST_COME⟩, c_PAIR := ⟨_, PySem.W.mg_of X G c_PAIR⟩, c_QUEUE_figures := ⟨_, PySem.W.mg_of X G c_QUEUE_figures⟩, q_WORDS := q_WORDS, c_WORDS := PySem.W.mg_of X G c_WORDS, t_WORDS := fun F => .inr ⟨_, _, _, l_WORDS, rfl, rfl, (by show 3 ≤ sizeLine; decide), .cons ⟨_, rfl⟩ (.cons ⟨_, rfl⟩ (.cons ⟨_, rfl⟩ (.nil)))⟩, e_WORDS := fun F => ⟨_, _, rfl, rfl, ⟨_, _, rfl, rfl, ⟨_, _, rfl, rfl, rfl⟩⟩⟩ }
  refine ⟨T.d_law, fun s v => .of_eq rfl, fun base _ _ => (ok_law T).imp spLaw_D⟩

end K26
open PySem PySem.W PyProof.Rows
set_option maxRecDepth 100000 in
set_option maxHeartbeats 0 in
theorem PySem.Challenge.cw_queueloops_k26_clashes_by_figures_holds : PySem.Challenge.rw_queueloops_k26_clashes_by_figures.Holds := by
  w_on; o_law; k_head; (case hw => w_witness2)
  k_fill
  refine L2.walk_of (l := PySem.Challenge.rw_queueloops_k26_clashes_by_figures) (n := 63) (k := 7) (x := "script") (CX := fun _ => L2.CX0) (sp := fun w => DL.spLaw _) rfl (by decide) rfl ⟨rfl, by decide, by decide⟩ (fun w h Y => PySem.W.kIn_of Y) ?F (fun _ _ a ns hl _ hS => ⟨a, ns, rfl, hS, hl, fun _ => rfl⟩) (fun _ _ _ _ _ h => h)
  case F =>
    intro w mg fa h KX G hmg
    refine' K26.all_mk KX G hmg ?a0 ?l0 ?c0 ?k0 ?a1 ?l1 ?c1 ?k1 ?a2 ?l2 ?c2 ?k2 ?a3 ?l3 ?c3 ?k3 ?a4 ?l4 ?c4 ?k4 ?a5 ?l5 ?c5 ?k5 ?a6 ?l6 ?c6 ?k6 ?a7 ?l7 ?c7 ?k7 ?a8 ?l8 ?c8 ?k8 ?a9 ?l9 ?c9 ?k9 ?a10 ?l10 ?c10 ?k10 ?a11 ?l11 ?c11 ?k11 ?a12 ?l12 ?c12 ?k12 ?a13 ?l13 ?c13 ?k13 ?a14 ?l14 ?c14 ?k14 ?a15 ?l15 ?c15 ?k15 ?a16 ?l16 ?c16 ?k16 ?a17 ?l17 ?c17 ?k17 ?a18 ?l18 ?c18 ?k18 ?z_abs ?z_all ?z_bool ?z_int ?z_isinstance ?z_len ?z_list ?z_max ?z_min ?z_range ?z_str ?z_sum ?z_tuple ?c_LEAST_BASE ?c_MOST_BASE ?c_MOST_BASES ?c_MOST_COME ?c_PAIR ?c_QUEUE_figures ?c_WORDS ?l_WORDS
    (case a0 => k_is)
    (case l0 => k_is)
    (case c0 => k_is)
    (case k0 => k_is)
    (case a1 => k_is)
    (case l1 => k_is)
    (case c1 => k_is)
    (case k1 => k_is)
    (case a2 => k_is)
    (case l2 => k_is)
    (case c2 => k_is)
    (case k2 => k_is)
    (case a3 => k_is)
    (case l3 => k_is)
    (case c3 => k_is)
    (case k3 => k_is)
    (case a4 => k_is)
    (case l4 => k_is)
    (case c4 => k_is)
    (case k4 => k_is)
    (case a5 => k_is)
    (case l5 => k_is)
    (case c5 => k_is)
    (case k5 => k_is)
    (case a6 => k_is)
    (case l6 => k_is)
    (case c6 => k_is)
    (case k6 => k_is)
    (case a7 => k_is)
    (case l7 => k_is)
    (case c7 => k_is)
    (case k7 => k_is)
    (case a8 => k_is)
    (case l8 => k_is)
    (case c8 => k_is)
    (case k8 => k_is)
    (case a9 => k_is)
    (case l9 => k_is)
    (case c9 => k_is)
    (case k9 => k_is)
    (case a10 => k_is)
    (case l10 => k_is)
    (case c10 => k_is)
    (case k10 => k_is)
    (case a11 => k_is)
    (case l11 => k_is)
    (case c11 => k_is)
    (case k11 => k_is)
    (case a12 => k_is)
    (case l12 => k_is)
    (case c12 => k_is)
    (case k12 => k_is)
    (case a13 => k_is)
    (case l13 => k_is)
    (case c13 => k_is)
    (case k13 => k_is)
    (case a14 => k_is)
    (case l14 => k_is)
    (case c14 => k_is)
    (case k14 => k_is)
    (case a15 => k_is)
    (case l15 => k_is)
    (case c15 => k_is)
    (case k15 => k_is)
    (case a16 => k_is)
    (case l16 => k_is)
    (case c16 => k_is)
    (case k16 => k_is)
    (case a17 => k_is)
    (case l17 => k_is)
    (case c17 => k_is)
    (case k17 => k_is)
    (case a18 => k_is)
    (case l18 => k_is)
    (case c18 => k_is)
    (case k18 => k_is)
    (case z_abs => k_is)
    (case z_all => k_is)
    (case z_bool => k_is)
    (case z_int => k_is)
    (case z_isinstance => k_is)
    (case z_len => k_is)
    (case z_list => k_is)
    (case z_max => k_is)
    (case z_min => k_is)
    (case z_range => k_is)
    (case z_str => k_is)
    (case z_sum => k_is)
    (case z_tuple => k_is)
    (case c_LEAST_BASE => k_is)
    (case c_MOST_BASE => k_is)
    (case c_MOST_BASES => k_is)
    (case c_MOST_COME => k_is)
    (case c_PAIR => k_is)
    (case c_QUEUE_figures => k_is)
    (case c_WORDS => k_is)
    (case l_WORDS => k_is)

#print axioms PySem.Challenge.cw_queueloops_k26_clashes_by_figures_holds
